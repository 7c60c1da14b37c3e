import PyProof.Rows.All
import Wide.All
import OpenK.AllK
import Wide.FinOn
import PyProof.TableCode
import PySem.Challenge.RW_sj0091_01
set_option Elab.async false
set_option genSizeOf false
set_option genSizeOfSpec false
set_option bootstrap.genMatcherCode false
set_option backward.match.sparseCases false
set_option genCtorIdx false
namespace Mn
abbrev aF:=@List.mem_cons_self
abbrev ai:=@Nat.le_trans
abbrev ay:=@Option.some.inj
abbrev aJ:=@Nat.le_add_right
abbrev bB:=@List.mem_cons_of_mem
abbrev bY:=@Nat.le_of_ble_eq_true
abbrev bJ:=@Nat.lt_of_le_of_lt
abbrev cu:=@List.mem_append_left
abbrev aO:=@Nat.le_refl
abbrev c6:=@List.mem_append_right
abbrev bU:=@Nat.lt_add_right
abbrev cL:=@List.append_assoc
abbrev dB:=@Nat.add_le_add_left
abbrev cZ:=@Nat.lt_succ_self
abbrev eG:=@Nat.lt_of_lt_of_le
abbrev ee:=@Nat.succ_le_succ
abbrev cK:=@Nat.lt_trans
abbrev gN:=@Nat.add_le_add_right
abbrev jN:=@List.mem_singleton_self
abbrev eX:=@Nat.add_le_add
abbrev bP:=@Nat.zero_le
abbrev cY:=@List.append_nil
abbrev kW:=@Nat.lt_add_of_pos_right
abbrev jM:=@Nat.eq_of_beq_eq_true
abbrev dJ:=@Nat.le_succ
abbrev hX:=@Nat.le_add_left
end Mn
section
open PySem PySem.W PyProof.Rows PySem.Calls
set_option maxRecDepth 100000
namespace Mn.H
noncomputable abbrev pR:Program:=Challenge.rw_sj0091_01.row.toRowW.1
noncomputable def bR:List Stmt:=behindTheImports pR
noncomputable def k(i:Nat):Stmt:=(bR[i]?).getD default
noncomputable def m(i j:Nat):Stmt:=match k i with
 | .ClassDef _ _ _ b _ _ _ _ _ _ _=>(b[j]?).getD default
 | s=>s
noncomputable abbrev N:Value:=.none
noncomputable def I(i:Int):Value:=.int i 0
noncomputable def S(s:Str)(t:Nat):Value:=.str s t
noncomputable def R(a:Nat):Value:=.ref a
noncomputable def t(xs:List Value):Obj:={cls:=.type "tuple",data:=.seq ⟨xs⟩}
noncomputable def f(c:Value)(xs:List Value):Obj:={cls:=c,data:=.fields ⟨xs⟩}
noncomputable def fr(xs:List (Option Value)):Obj:={cls:=.type "frame",slots:=⟨xs⟩}
noncomputable def d(c:Value)(es:List DictEntry)(n:Nat):Obj:={cls:=c,data:=.dict ⟨es⟩ n}
noncomputable def e(P:Params)(s:Str)(t:Nat)(v:Value):DictEntry:={hash:=PyData.keyHash P s,key:=.str s t,val:=v}
noncomputable def c(n q:Str)(t:Nat)(l a g:Int)(r:Nat)(b:Bool)(x y z:Value)(u:Nat):Obj:=f (.type "code") [S n t,S q (t + 1),S "/claim/cut.py" (t + 2),I l,I a,I 0,I 0,I g,R r,.bool b,I 181,R (r + 1),N,x,y,z,I u,I l,S "/claim/cut.py" (u + 1)]
noncomputable def fd(s:Stmt)(q:Str)(g:Addr)(df md cd:Value):FuncData:=match s with
 | .FunctionDef n a b _ _ _ sc _ _ _=>{name:=n,qualname:=q,params:=a,body:=.stmts b,scope:=sc,globals:=g,closure:=[],defaults:=df,kwdefaults:=.none,pyModule:=md,code:=cd}
 | _=>default
noncomputable def w(s:Stmt)(q:Str):Obj:={cls:=.none,data:=.func (fd s q 0 N N N)}
noncomputable def F(s:Stmt)(q:Str)(df md cd:Value):Obj:={cls:=.type "function",data:=.func (fd s q 3 df md cd)}
noncomputable def K(n:Str)(bs ms:List Value)(a:Nat)(q:Str)(sub:List Value)(sl:List (Option Value)):Obj:={cls:=.type "type",data:=.cls {name:=n,bases:=bs,mro:=ms,ns:=a,qualname:=q,subclasses:=sub},slots:=⟨sl⟩}
noncomputable def o3(P:Params)(n:Str)(u k:Nat):Obj:=d (.type "dict") (e P "__name__" 165 (S n u)::([
 e P "__doc__" 166 N,
 e P "__package__" 167 N,
 e P "__loader__" 168 (.builtin "__main__.__loader__#opaque"),
 e P "__spec__" 169 N,
 e P "__annotations__" 170 (R 6),
 e P "__builtins__" 171 (R 4),
 e P "__file__" 173 (S "/claim/cut.py" 172),
 e P "__cached__" 174 N,
 e P "_wall" 193 (R 21),
 e P "K_NUM" 197 (.int 1 196),
 e P "K_STR" 199 (.int 2 198),
 e P "K_TPL" 201 (.int 3 200),
 e P "K_NAME" 203 (.int 8 202),
 e P "K_THIS" 205 (.int 9 204),
 e P "K_SHORT" 207 (.int 14 206),
 e P "K_SPREAD" 209 (.int 15 208),
 e P "K_MEMBER" 211 (.int 16 210),
 e P "K_INDEX" 213 (.int 17 212),
 e P "K_CALL" 215 (.int 18 214),
 e P "K_NEW" 217 (.int 19 216),
 e P "K_CHAIN" 219 (.int 20 218),
 e P "K_UNARY" 221 (.int 21 220),
 e P "K_UPDATE" 223 (.int 22 222),
 e P "K_BINARY" 225 (.int 23 224),
 e P "K_LOGIC" 227 (.int 24 226),
 e P "K_ASSIGN" 229 (.int 25 228),
 e P "K_PICK" 231 (.int 26 230),
 e P "K_FUNC" 233 (.int 27 232),
 e P "K_AS" 235 (.int 29 234),
 e P "K_SATISFIES" 237 (.int 31 236),
 e P "K_NONNULL" 239 (.int 32 238),
 e P "K_PAREN" 241 (.int 33 240),
 e P "K_OBJPAT" 243 (.int 34 242),
 e P "K_ARRPAT" 245 (.int 35 244),
 e P "K_BIND" 247 (.int 36 246),
 e P "K_VAR" 249 (.int 41 248),
 e P "K_SWITCH" 251 (.int 50 250),
 e P "K_CASE" 253 (.int 51 252),
 e P "K_CLASS" 255 (.int 61 254),
 e P "K_FIELD" 257 (.int 62 256),
 e P "K_LIST" 259 (.int 71 258),
 e P "F_OPTCHAIN" 261 (.int 1 260),
 e P "F_ARROW" 263 (.int 4 262),
 e P "F_EXPRBODY" 265 (.int 8 264),
 e P "F_REST" 267 (.int 8192 266),
 e P "Node" 305 (R 38),
 e P "has" 313 (R 49),
 e P "bare" 320 (R 56),
 e P "literal_key" 327 (R 63),
 e P "member_name" 334 (R 70),
 e P "root_key" 343 (R 77),
 e P "ref_key" 354 (R 84),
 e P "tested_key" 362 (R 91),
 e P "KeepError" 395 (R 109),
 e P "TooDeep" 424 (R 130),
 e P "Y_BOOL" 428 (.int 2 427),
 e P "Y_STR" 430 (.int 3 429),
 e P "Y_NUM" 432 (.int 4 431),
 e P "Y_ENUM" 434 (.int 5 433),
 e P "Y_UNION" 436 (.int 6 435),
 e P "Y_OBJ" 438 (.int 8 437),
 e P "Y_TPL" 440 (.int 18 439),
 e P "ANY" 442 (.int 0 441),
 e P "UNKNOWN" 444 (.int 1 443),
 e P "NEVER" 446 (.int 2 445),
 e P "STRING" 448 (.int 6 447),
 e P "NUMBER" 450 (.int 7 449),
 e P "FALSE_T" 452 (.int 8 451),
 e P "TRUE_T" 454 (.int 9 453),
 e P "ERR" 456 (.int 13 455),
 e P "FRESH_F" 458 (.int 14 457),
 e P "FRESH_T" 460 (.int 15 459),
 e P "MAX_UNION" 462 (.int 400 461),
 e P "MARKED_ROWS" 463 (R 133),
 e P "parts_of" 472 (R 140),
 e P "whole_of_row" 480 (R 147),
 e P "regular_twin" 489 (R 154),
 e P "join_bools" 496 (R 161),
 e P "stays_beside" 505 (R 168),
 e P "top_of" 513 (R 175),
 e P "union" 519 (R 180),
 e P "L_TRUE" 523 (.int 5 522),
 e P "L_FALSE" 525 (.int 6 524),
 e P "L_CASE" 527 (.int 8 526),
 e P "pattern_leaves" 538 (R 187),
 e P "target_nodes" 545 (R 194),
 e P "target_keys" 551 (R 199),
 e P "Asker" 669 (R 279),
 e P "is_hidden" 680 (R 290),
 e P "EFFECTS" 683 (R 291),
 e P "like_write" 694 (R 298),
 e P "calls_out" 703 (R 305),
 e P "tested_nodes" 709 (R 310),
 e P "spine_set" 717 (R 317),
 e P "deeds_of" 723 (R 322),
 e P "reads_hidden" 729 (R 327),
 e P "inner" 738 (R 334),
 e P "holder_key" 747 (R 341),
 e P "chain_holds" 756 (R 348),
 e P "concerns" 765 (R 355),
 e P "sets_within" 771 (R 360),
 e P "pred_operand" 784 (R 367),
 e P "call_concerns" 790 (R 372),
 e P "short_cut" 797 (R 379),
 e P "_law_keys" 810 (R 385),
 e P "_law_plain" 816 (R 392),
 e P "_law_ops" 824 (R 393),
 e P "_law_passed" 832 (R 394),
 e P "_law_stuff" 847 (R 402),
 e P "_law_node" 859 (R 409),
 e P "_law_item" 869 (R 416),
 e P "_law_same" 880 (R 423),
 e P "_law_shut" 888 (R 430),
 e P "_law_hold" 896 (R 437),
 e P "_law_part" 904 (R 444),
 e P "_law_name" 915 (R 451),
 e P "_law_leaf" 925 (R 458),
 e P "_law_member" 940 (R 465),
 e P "_law_call" 961 (R 472),
 e P "_law_target" 970 (R 479),
 e P "_law_spot_of" 977 (R 486),
 e P "_law_set" 986 (R 493),
 e P "_law_assign" 992 (R 498),
 e P "_law_unary" 1003 (R 505),
 e P "_law_within" 1016 (R 512),
 e P "_law_join" 1022 (R 517),
 e P "_law_step" 1028 (R 522),
 e P "_law_roll" 1035 (R 529),
 e P "_law_trace" 1045 (R 536),
 e P "_law_lay" 1058 (R 543),
 e P "_law_strike" 1069 (R 550),
 e P "_law_null" 1076 (R 557),
 e P "_law_spot" 1087 (R 564),
 e P "_law_asks" 1096 (R 571),
 e P "_law_read" 1107 (R 578),
 e P "_law_write" 1120 (R 585),
 e P "_law_stops" 1129 (R 592),
 e P "_law_unpack" 1142 (R 599),
 e P "_law_given" 1155 (R 606),
 e P "_law_called" 1165 (R 613),
 e P "_law_is_global" 1174 (R 620),
 e P "_law_signed" 1185 (R 627),
 e P "_law_go" 1197 (R 634),
 e P "_law_hits" 1203 (R 639),
 e P "_law_tells" 1209 (R 644),
 e P "_law_read_right" 1215 (R 649),
 e P "_law_run_right" 1221 (R 654),
 e P "_law_nodes_right" 1227 (R 659),
 e P "_law_clauses_right" 1233 (R 664),
 e P "law" 1239 (R 669)]:List DictEntry).take k) (k + 1)
noncomputable def VQ(k:Nat):Obj:=f N ([(I 1),(I 0),(R 20),(I 41),(I 0),(R 27),(I 50),(I 0),(R 48),(I 52),(I 0),(R 55),(I 56),(I 0),(R 62),(I 65),(I 0),(R 69),(I 69),(I 0),(R 76),(I 78),(I 0),(R 83),(I 95),(I 0),(R 90),(I 104),(I 0),(R 97),(I 109),(I 0),(R 118),(I 134),(I 0),(R 139),(I 141),(I 0),(R 146),(I 150),(I 0),(R 153),(I 155),(I 0),(R 160),(I 159),(I 0),(R 167),(I 163),(I 0),(R 174),(I 168),(I 0),(R 179),(I 189),(I 0),(R 186),(I 203),(I 0),(R 193),(I 207),(I 0),(R 198),(I 209),(I 0),(R 205),(I 250),(I 0),(R 289),(I 257),(I 0),(R 297),(I 265),(I 0),(R 304),(I 270),(I 0),(R 309),(I 279),(I 0),(R 316),(I 287),(I 0),(R 321),(I 297),(I 0),(R 326),(I 305),(I 0),(R 333),(I 309),(I 0),(R 340),(I 317),(I 0),(R 347),(I 324),(I 0),(R 354),(I 328),(I 0),(R 359),(I 339),(I 0),(R 366),(I 348),(I 0),(R 371),(I 352),(I 0),(R 378),(I 360),(I 0),(R 391),(I 365),(I 0),(R 408),(I 370),(I 0),(R 415),(I 381),(I 0),(R 422),(I 386),(I 0),(R 429),(I 388),(I 0),(R 436),(I 390),(I 0),(R 443),(I 392),(I 0),(R 450),(I 401),(I 0),(R 457),(I 411),(I 0),(R 464),(I 437),(I 0),(R 471),(I 466),(I 0),(R 478),(I 469),(I 0),(R 485),(I 471),(I 0),(R 492),(I 476),(I 0),(R 497),(I 501),(I 0),(R 504),(I 512),(I 0),(R 511),(I 524),(I 0),(R 516),(I 552),(I 0),(R 521),(I 562),(I 0),(R 528),(I 565),(I 0),(R 535),(I 571),(I 0),(R 542),(I 580),(I 0),(R 549),(I 587),(I 0),(R 556),(I 589),(I 0),(R 563),(I 604),(I 0),(R 570),(I 609),(I 0),(R 577),(I 622),(I 0),(R 584),(I 634),(I 0),(R 591),(I 639),(I 0),(R 598),(I 654),(I 0),(R 605),(I 671),(I 0),(R 612),(I 684),(I 0),(R 619),(I 689),(I 0),(R 626),(I 702),(I 0),(R 633),(I 738),(I 0),(R 638),(I 743),(I 0),(R 643),(I 745),(I 0),(R 648),(I 762),(I 0),(R 653),(I 785),(I 0),(R 658),(I 814),(I 0),(R 663),(I 834),(I 0),(R 668)].take k)
noncomputable def o2(P:Params)(b:Bool):Obj:=bif b then d N [e P "type.__subclasses__.Exception.0" 392 (I 109),e P "type.__subclasses__.Exception.n" 393 (I 1)] 2 else d N [] 0
noncomputable def rest(P:Params):List Obj:=[
 t [],
 f N [],
 t [(S "k" 190)],
 t [],
 w (k 0) "_wall",
 c "_wall" "_wall" 187 1 1 3 15 true (R 17) (R 18) (R 19) 191,
 F (k 0) "_wall" N (S "__main__" 164) (R 20),
 t [],
 f (.type "builtin_function_or_method") [(.builtin "type.__prepare__"),(.type "type")],
 d (.type "dict") [e P "__module__" 275 (S "kindkeep.nodes" 194),e P "__qualname__" 277 (S "Node" 276),e P "__firstlineno__" 279 (.int 41 278),e P "__init__" 291 (R 35),e P "__static_attributes__" 298 (R 36)] 5,
 t [],
 f N [(I 43),(I 4),(R 34)],
 c "Node" "Node" 270 41 0 0 25 false N N N 273,
 fr [some (R 27),some (R 3),some (R 24),none,some (S "kindkeep.nodes" 194),none,some (R 0)],
 t [],
 f N [],
 t [(S "self" 283),(S "kind" 284),(S "a" 285),(S "kids" 286),(S "flags" 287),(S "at" 288)],
 t [],
 w (m 38 0) "Node.__init__",
 c "__init__" "Node.__init__" 280 43 6 3 29 true (R 31) (R 32) (R 33) 289,
 F (m 38 0) "Node.__init__" N (S "kindkeep.nodes" 194) (R 34),
 t [(S "a" 292),(S "at" 293),(S "flags" 294),(S "kids" 295),(S "kind" 296),(S "nid" 297)],
 d (.type "dict") [e P "__module__" 275 (S "kindkeep.nodes" 194),e P "__firstlineno__" 279 (.int 41 278),e P "__init__" 291 (R 35),e P "__static_attributes__" 298 (R 36),e P "__dict__" 300 (R 39),e P "__weakref__" 302 (R 40),e P "__doc__" 303 N] 4,
 K "Node" [(.type "object")] [(R 38),(.type "object")] 37 "Node" [] [none,none,some (S "Node" 268),some (S "Node" 276),some (.builtin "object.__new__"),some (.bool true)],
 f (.type "getset_descriptor") [(S "__dict__" 299),(R 38),(.builtin "function.__dict__"),(.builtin "function.__dict__#set")],
 f (.type "getset_descriptor") [(S "__weakref__" 301),(R 38),(.builtin "ExceptionGroup.__weakref__"),N],
 f (.type "super") [(R 38),(R 38),(R 38)],
 f (.type "builtin_function_or_method") [(.builtin "object.__init_subclass__"),(R 38)],
 t [],
 f N [],
 t [(S "node" 309),(S "flag" 310)],
 t [],
 w (k 39) "has",
 c "has" "has" 306 50 2 3 43 true (R 45) (R 46) (R 47) 311,
 F (k 39) "has" N (S "kindkeep.nodes" 194) (R 48),
 t [],
 f N [],
 t [(S "node" 317)],
 t [],
 w (k 40) "bare",
 c "bare" "bare" 314 52 1 3 50 true (R 52) (R 53) (R 54) 318,
 F (k 40) "bare" N (S "kindkeep.nodes" 194) (R 55),
 t [],
 f N [],
 t [(S "node" 324)],
 t [],
 w (k 41) "literal_key",
 c "literal_key" "literal_key" 321 56 1 3 57 true (R 59) (R 60) (R 61) 325,
 F (k 41) "literal_key" N (S "kindkeep.nodes" 194) (R 62),
 t [],
 f N [],
 t [(S "node" 331)],
 t [],
 w (k 42) "member_name",
 c "member_name" "member_name" 328 65 1 3 64 true (R 66) (R 67) (R 68) 332,
 F (k 42) "member_name" N (S "kindkeep.nodes" 194) (R 69),
 t [],
 f N [],
 t [(S "node" 338),(S "use" 339),(S "sid" 340)],
 t [],
 w (k 43) "root_key",
 c "root_key" "root_key" 335 69 2 3 71 true (R 73) (R 74) (R 75) 341,
 F (k 43) "root_key" N (S "kindkeep.nodes" 194) (R 76),
 t [],
 f N [],
 t [(S "node" 347),(S "use" 348),(S "tail" 349),(S "name" 350),(S "head" 351)],
 t [],
 w (k 44) "ref_key",
 c "ref_key" "ref_key" 344 78 2 3 78 true (R 80) (R 81) (R 82) 352,
 F (k 44) "ref_key" N (S "kindkeep.nodes" 194) (R 83),
 t [],
 f N [],
 t [(S "node" 358),(S "use" 359)],
 t [],
 w (k 45) "tested_key",
 c "tested_key" "tested_key" 355 95 2 3 85 true (R 87) (R 88) (R 89) 360,
 F (k 45) "tested_key" N (S "kindkeep.nodes" 194) (R 90),
 t [(.type "Exception")],
 f (.type "builtin_function_or_method") [(.builtin "type.__prepare__"),(.type "type")],
 d (.type "dict") [e P "__module__" 372 (S "kindkeep.diags" 363),e P "__qualname__" 374 (S "KeepError" 373),e P "__firstlineno__" 376 (.int 104 375),e P "__init__" 385 (R 106),e P "__static_attributes__" 388 (R 107)] 5,
 t [],
 f N [(I 106),(I 4),(R 105)],
 c "KeepError" "KeepError" 367 104 0 0 95 false N N N 370,
 fr [some (R 97),some (R 3),some (R 94),none,some (S "kindkeep.diags" 363),none,some (R 0)],
 t [(S "" 377)],
 t [],
 f N [],
 t [(S "self" 381),(S "text" 382)],
 t [],
 w (m 47 0) "KeepError.__init__",
 c "__init__" "KeepError.__init__" 378 106 2 3 100 true (R 102) (R 103) (R 104) 383,
 F (m 47 0) "KeepError.__init__" (R 99) (S "kindkeep.diags" 363) (R 105),
 t [(S "number" 386),(S "text" 387)],
 d (.type "dict") [e P "__module__" 372 (S "kindkeep.diags" 363),e P "__firstlineno__" 376 (.int 104 375),e P "__init__" 385 (R 106),e P "__static_attributes__" 388 (R 107),e P "__weakref__" 390 (R 110),e P "__doc__" 391 N] 3,
 K "KeepError" [(.type "Exception")] [(R 109),(.type "Exception"),(.type "BaseException"),(.type "object")] 108 "KeepError" [(R 130)] [some (R 92),none,some (S "KeepError" 365),some (S "KeepError" 373),some (.builtin "Exception.__new__"),some (.bool true)],
 f (.type "getset_descriptor") [(S "__weakref__" 389),(R 109),(.builtin "ExceptionGroup.__weakref__"),N],
 f (.type "super") [(R 109),(R 109),(R 109)],
 f (.type "builtin_function_or_method") [(.builtin "object.__init_subclass__"),(R 109)],
 t [(R 109)],
 f (.type "builtin_function_or_method") [(.builtin "type.__prepare__"),(.type "type")],
 d (.type "dict") [e P "__module__" 403 (S "kindkeep.diags" 363),e P "__qualname__" 405 (S "TooDeep" 404),e P "__firstlineno__" 407 (.int 109 406),e P "__init__" 418 (R 127),e P "__static_attributes__" 421 (R 128)] 5,
 t [],
 f N [(I 111),(I 4),(R 126)],
 c "TooDeep" "TooDeep" 398 109 0 0 116 false N N N 401,
 fr [some (R 118),some (R 3),some (R 115),none,some (S "kindkeep.diags" 363),none,some (R 0)],
 t [(.int 2589 408),(S "" 409)],
 t [],
 f N [],
 t [(S "self" 413),(S "number" 414),(S "text" 415)],
 t [],
 w (m 48 0) "TooDeep.__init__",
 c "__init__" "TooDeep.__init__" 410 111 3 3 121 true (R 123) (R 124) (R 125) 416,
 F (m 48 0) "TooDeep.__init__" (R 120) (S "kindkeep.diags" 363) (R 126),
 t [(S "number" 419),(S "text" 420)],
 d (.type "dict") [e P "__module__" 403 (S "kindkeep.diags" 363),e P "__firstlineno__" 407 (.int 109 406),e P "__init__" 418 (R 127),e P "__static_attributes__" 421 (R 128),e P "__doc__" 422 N] 2,
 K "TooDeep" [(R 109)] [(R 130),(R 109),(.type "Exception"),(.type "BaseException"),(.type "object")] 129 "TooDeep" [] [some (R 113),none,some (S "TooDeep" 396),some (S "TooDeep" 404),some (.builtin "Exception.__new__"),some (.bool true)],
 f (.type "super") [(R 130),(R 130),(R 130)],
 f (.type "builtin_function_or_method") [(.builtin "object.__init_subclass__"),(R 130)],
 t [(.int 2 427),(.int 3 429),(.int 4 431),(.int 5 433),(.int 8 437)],
 t [],
 f N [],
 t [(S "tab" 467),(S "t" 468),(S "row" 469)],
 t [],
 w (k 69) "parts_of",
 c "parts_of" "parts_of" 464 134 2 3 134 true (R 136) (R 137) (R 138) 470,
 F (k 69) "parts_of" N (S "kindkeep.types" 425) (R 139),
 t [],
 f N [],
 t [(S "row" 476),(S "kind" 477)],
 t [],
 w (k 70) "whole_of_row",
 c "whole_of_row" "whole_of_row" 473 141 1 3 141 true (R 143) (R 144) (R 145) 478,
 F (k 70) "whole_of_row" N (S "kindkeep.types" 425) (R 146),
 t [],
 f N [],
 t [(S "tab" 484),(S "t" 485),(S "row" 486)],
 t [],
 w (k 71) "regular_twin",
 c "regular_twin" "regular_twin" 481 150 2 3 148 true (R 150) (R 151) (R 152) 487,
 F (k 71) "regular_twin" N (S "kindkeep.types" 425) (R 153),
 t [],
 f N [],
 t [(S "got" 493)],
 t [],
 w (k 72) "join_bools",
 c "join_bools" "join_bools" 490 155 1 3 155 true (R 157) (R 158) (R 159) 494,
 F (k 72) "join_bools" N (S "kindkeep.types" 425) (R 160),
 t [],
 f N [],
 t [(S "tab" 500),(S "got" 501),(S "t" 502)],
 t [],
 w (k 73) "stays_beside",
 c "stays_beside" "stays_beside" 497 159 3 3 162 true (R 164) (R 165) (R 166) 503,
 F (k 73) "stays_beside" N (S "kindkeep.types" 425) (R 167),
 t [],
 f N [],
 t [(S "got" 509),(S "t" 510)],
 t [],
 w (k 74) "top_of",
 c "top_of" "top_of" 506 163 1 3 169 true (R 171) (R 172) (R 173) 511,
 F (k 74) "top_of" N (S "kindkeep.types" 425) (R 174),
 t [],
 f N [],
 w (k 75) "union",
 c "union" "union" 514 168 2 3 176 true N N (R 178) 517,
 F (k 75) "union" N (S "kindkeep.types" 425) (R 179),
 t [],
 f N [],
 t [(S "pattern" 531),(S "out" 532),(S "stack" 533),(S "node" 534),(S "kid" 535)],
 t [],
 w (k 80) "pattern_leaves",
 c "pattern_leaves" "pattern_leaves" 528 189 1 3 181 true (R 183) (R 184) (R 185) 536,
 F (k 80) "pattern_leaves" N (S "kindkeep.flow" 520) (R 186),
 t [],
 f N [],
 t [(S "node" 542)],
 t [],
 w (k 81) "target_nodes",
 c "target_nodes" "target_nodes" 539 203 1 3 188 true (R 190) (R 191) (R 192) 543,
 F (k 81) "target_nodes" N (S "kindkeep.flow" 520) (R 193),
 t [],
 f N [],
 w (k 82) "target_keys",
 c "target_keys" "target_keys" 546 207 2 3 195 true N N (R 197) 549,
 F (k 82) "target_keys" N (S "kindkeep.flow" 520) (R 198),
 t [],
 f (.type "builtin_function_or_method") [(.builtin "type.__prepare__"),(.type "type")],
 d (.type "dict") [e P "__module__" 559 (S "kindkeep.flow" 520),e P "__qualname__" 561 (S "Asker" 560),e P "__firstlineno__" 563 (.int 209 562),e P "__init__" 572 (R 213),e P "turn" 584 (R 220),e P "owns" 593 (R 227),e P "sets" 603 (R 234),e P "kills" 613 (R 241),e P "join" 621 (R 248),e P "start_of" 631 (R 255),e P "dead" 638 (R 262),e P "kept_past" 647 (R 269),e P "alive" 656 (R 276),e P "__static_attributes__" 662 (R 277)] 14,
 t [],
 f N [(I 211),(I 4),(R 212),(I 218),(I 4),(R 219),(I 221),(I 4),(R 226),(I 224),(I 4),(R 233),(I 229),(I 4),(R 240),(I 235),(I 4),(R 247),(I 238),(I 4),(R 254),(I 241),(I 4),(R 261),(I 244),(I 4),(R 268),(I 247),(I 4),(R 275)],
 c "Asker" "Asker" 554 209 0 0 203 false N N N 557,
 fr [some (R 205),some (R 3),some (R 202),none,some (S "kindkeep.flow" 520),none,some (R 0)],
 t [],
 f N [],
 t [(S "self" 567),(S "tab" 568),(S "use" 569)],
 t [],
 w (m 83 0) "Asker.__init__",
 c "__init__" "Asker.__init__" 564 211 3 3 207 true (R 209) (R 210) (R 211) 570,
 F (m 83 0) "Asker.__init__" N (S "kindkeep.flow" 520) (R 212),
 t [],
 f N [],
 t [(S "self" 576),(S "kind" 577),(S "node" 578),(S "extra" 579),(S "key" 580),(S "t" 581)],
 t [],
 w (m 83 1) "Asker.turn",
 c "turn" "Asker.turn" 573 218 6 3 214 true (R 216) (R 217) (R 218) 582,
 F (m 83 1) "Asker.turn" N (S "kindkeep.flow" 520) (R 219),
 t [],
 f N [],
 t [(S "self" 588),(S "node" 589),(S "key" 590)],
 t [],
 w (m 83 2) "Asker.owns",
 c "owns" "Asker.owns" 585 221 3 3 221 true (R 223) (R 224) (R 225) 591,
 F (m 83 2) "Asker.owns" N (S "kindkeep.flow" 520) (R 226),
 t [],
 f N [],
 t [(S "self" 597),(S "node" 598),(S "key" 599),(S "declared" 600)],
 t [],
 w (m 83 3) "Asker.sets",
 c "sets" "Asker.sets" 594 224 4 3 228 true (R 230) (R 231) (R 232) 601,
 F (m 83 3) "Asker.sets" N (S "kindkeep.flow" 520) (R 233),
 t [],
 f N [],
 t [(S "self" 607),(S "node" 608),(S "key" 609),(S "target" 610)],
 t [],
 w (m 83 4) "Asker.kills",
 c "kills" "Asker.kills" 604 229 3 3 235 true (R 237) (R 238) (R 239) 611,
 F (m 83 4) "Asker.kills" N (S "kindkeep.flow" 520) (R 240),
 t [],
 f N [],
 t [(S "self" 617),(S "ts" 618)],
 t [],
 w (m 83 5) "Asker.join",
 c "join" "Asker.join" 614 235 2 3 242 true (R 244) (R 245) (R 246) 619,
 F (m 83 5) "Asker.join" N (S "kindkeep.flow" 520) (R 247),
 t [],
 f N [],
 t [(S "self" 625),(S "node" 626),(S "key" 627),(S "declared" 628)],
 t [],
 w (m 83 6) "Asker.start_of",
 c "start_of" "Asker.start_of" 622 238 4 3 249 true (R 251) (R 252) (R 253) 629,
 F (m 83 6) "Asker.start_of" N (S "kindkeep.flow" 520) (R 254),
 t [],
 f N [],
 t [(S "self" 635)],
 t [],
 w (m 83 7) "Asker.dead",
 c "dead" "Asker.dead" 632 241 1 3 256 true (R 258) (R 259) (R 260) 636,
 F (m 83 7) "Asker.dead" N (S "kindkeep.flow" 520) (R 261),
 t [],
 f N [],
 t [(S "self" 642),(S "node" 643),(S "key" 644)],
 t [],
 w (m 83 8) "Asker.kept_past",
 c "kept_past" "Asker.kept_past" 639 244 3 3 263 true (R 265) (R 266) (R 267) 645,
 F (m 83 8) "Asker.kept_past" N (S "kindkeep.flow" 520) (R 268),
 t [],
 f N [],
 t [(S "self" 651),(S "graph" 652),(S "number" 653)],
 t [],
 w (m 83 9) "Asker.alive",
 c "alive" "Asker.alive" 648 247 3 3 270 true (R 272) (R 273) (R 274) 654,
 F (m 83 9) "Asker.alive" N (S "kindkeep.flow" 520) (R 275),
 t [(S "given" 657),(S "lost" 658),(S "sure" 659),(S "tab" 660),(S "use" 661)],
 d (.type "dict") [e P "__module__" 559 (S "kindkeep.flow" 520),e P "__firstlineno__" 563 (.int 209 562),e P "__init__" 572 (R 213),e P "turn" 584 (R 220),e P "owns" 593 (R 227),e P "sets" 603 (R 234),e P "kills" 613 (R 241),e P "join" 621 (R 248),e P "start_of" 631 (R 255),e P "dead" 638 (R 262),e P "kept_past" 647 (R 269),e P "alive" 656 (R 276),e P "__static_attributes__" 662 (R 277),e P "__dict__" 664 (R 280),e P "__weakref__" 666 (R 281),e P "__doc__" 667 N] 4,
 K "Asker" [(.type "object")] [(R 279),(.type "object")] 278 "Asker" [] [none,none,some (S "Asker" 552),some (S "Asker" 560),some (.builtin "object.__new__"),some (.bool true)],
 f (.type "getset_descriptor") [(S "__dict__" 663),(R 279),(.builtin "function.__dict__"),(.builtin "function.__dict__#set")],
 f (.type "getset_descriptor") [(S "__weakref__" 665),(R 279),(.builtin "ExceptionGroup.__weakref__"),N],
 f (.type "super") [(R 279),(R 279),(R 279)],
 f (.type "builtin_function_or_method") [(.builtin "object.__init_subclass__"),(R 279)],
 t [],
 f N [],
 t [(S "hidden" 675),(S "node" 676),(S "name" 677)],
 t [],
 w (k 85) "is_hidden",
 c "is_hidden" "is_hidden" 672 250 2 3 284 true (R 286) (R 287) (R 288) 678,
 F (k 85) "is_hidden" N (S "kindkeep.flowmake" 670) (R 289),
 t [(.int 18 214),(.int 19 216),(.int 16 210),(.int 17 212),(.int 34 242),(.int 35 244),(.int 15 208)],
 t [],
 f N [],
 t [(S "node" 687),(S "key" 688),(S "path" 689),(S "target" 690),(S "name" 691)],
 t [],
 w (k 88) "like_write",
 c "like_write" "like_write" 684 257 2 3 292 true (R 294) (R 295) (R 296) 692,
 F (k 88) "like_write" N (S "kindkeep.narrowfar" 681) (R 297),
 t [],
 f N [],
 t [(S "asker" 698),(S "node" 699),(S "callee" 700)],
 t [],
 w (k 89) "calls_out",
 c "calls_out" "calls_out" 695 265 2 3 299 true (R 301) (R 302) (R 303) 701,
 F (k 89) "calls_out" N (S "kindkeep.narrowfar" 681) (R 304),
 t [],
 f N [],
 w (k 90) "tested_nodes",
 c "tested_nodes" "tested_nodes" 704 270 3 3 306 true N N (R 308) 707,
 F (k 90) "tested_nodes" N (S "kindkeep.narrowfar" 681) (R 309),
 t [],
 f N [],
 t [(S "node" 713),(S "through" 714)],
 t [],
 w (k 91) "spine_set",
 c "spine_set" "spine_set" 710 279 1 3 311 true (R 313) (R 314) (R 315) 715,
 F (k 91) "spine_set" N (S "kindkeep.narrowfar" 681) (R 316),
 t [],
 f N [],
 w (k 92) "deeds_of",
 c "deeds_of" "deeds_of" 718 287 1 3 318 true N N (R 320) 721,
 F (k 92) "deeds_of" N (S "kindkeep.narrowfar" 681) (R 321),
 t [],
 f N [],
 w (k 93) "reads_hidden",
 c "reads_hidden" "reads_hidden" 724 297 2 3 323 true N N (R 325) 727,
 F (k 93) "reads_hidden" N (S "kindkeep.narrowfar" 681) (R 326),
 t [],
 f N [],
 t [(S "node" 735)],
 t [],
 w (k 95) "inner",
 c "inner" "inner" 732 305 1 3 328 true (R 330) (R 331) (R 332) 736,
 F (k 95) "inner" N (S "kindkeep.narrowplain" 730) (R 333),
 t [],
 f N [],
 t [(S "node" 742),(S "use" 743),(S "name" 744)],
 t [],
 w (k 96) "holder_key",
 c "holder_key" "holder_key" 739 309 2 3 335 true (R 337) (R 338) (R 339) 745,
 F (k 96) "holder_key" N (S "kindkeep.narrowplain" 730) (R 340),
 t [],
 f N [],
 t [(S "node" 751),(S "key" 752),(S "use" 753)],
 t [],
 w (k 97) "chain_holds",
 c "chain_holds" "chain_holds" 748 317 3 3 342 true (R 344) (R 345) (R 346) 754,
 F (k 97) "chain_holds" N (S "kindkeep.narrowplain" 730) (R 347),
 t [],
 f N [],
 t [(S "asker" 760),(S "operand" 761),(S "key" 762)],
 t [],
 w (k 98) "concerns",
 c "concerns" "concerns" 757 324 3 3 349 true (R 351) (R 352) (R 353) 763,
 F (k 98) "concerns" N (S "kindkeep.narrowplain" 730) (R 354),
 t [],
 f N [],
 w (k 99) "sets_within",
 c "sets_within" "sets_within" 766 328 3 3 356 true N N (R 358) 769,
 F (k 99) "sets_within" N (S "kindkeep.narrowplain" 730) (R 359),
 t [],
 f N [],
 t [(S "call" 777),(S "place" 778),(S "callee" 779),(S "args" 780),(S "arg" 781)],
 t [],
 w (k 101) "pred_operand",
 c "pred_operand" "pred_operand" 774 339 2 3 361 true (R 363) (R 364) (R 365) 782,
 F (k 101) "pred_operand" N (S "kindkeep.narrowask" 772) (R 366),
 t [],
 f N [],
 w (k 102) "call_concerns",
 c "call_concerns" "call_concerns" 785 348 3 3 368 true N N (R 370) 788,
 F (k 102) "call_concerns" N (S "kindkeep.narrowask" 772) (R 371),
 t [],
 f N [],
 t [(S "node" 794)],
 t [],
 w (k 103) "short_cut",
 c "short_cut" "short_cut" 791 352 1 3 373 true (R 375) (R 376) (R 377) 795,
 F (k 103) "short_cut" N (S "kindkeep.narrowask" 772) (R 378),
 t [(S "s1" 800)],
 t [(S "s1" 801),(S "a" 802)],
 t [(S "s1" 803),(S "a" 804),(S "b" 805)],
 t [(S "this" 806),(S "a" 807)],
 t [(S "s2" 808),(S "b" 809)],
 t [(R 380),(R 381),(R 382),(R 383),(R 384)],
 t [],
 f N [],
 t [],
 t [],
 w (k 106) "_law_plain",
 c "_law_plain" "_law_plain" 811 360 0 3 386 true (R 388) (R 389) (R 390) 814,
 F (k 106) "_law_plain" N (S "law_sj0091_01" 798) (R 391),
 t [(S "=" 817),(S "+=" 818),(S "&&=" 819),(S "||=" 820),(S "??=" 821),(S "=" 822),(S "=" 823)],
 t [(S "ref" 825),(S "tested" 826),(S "spine" 827),(S "holds" 828),(S "holder" 829),(S "object" 830),(S "name" 831)],
 t [(S "o" 833),(.int 0 834)],
 t [(S "o" 835),(.int 1 836)],
 t [(S "o" 837),(.int 2 838)],
 t [(S "n" 839),(.int 0 840)],
 t [(S "u" 841),(.int 0 842)],
 t [(S "k" 843),(.int 0 844)],
 t [(S "k" 845),(.int 1 846)],
 t [(R 395),(R 396),(R 397),(R 398),(R 399),(R 400),(R 401)],
 t [],
 f N [],
 t [(S "w" 851),(S "kind" 852),(S "a" 853),(S "kids" 854),(S "flags" 855),(S "node" 856)],
 t [],
 w (k 110) "_law_node",
 c "_law_node" "_law_node" 848 365 5 3 403 true (R 405) (R 406) (R 407) 857,
 F (k 110) "_law_node" N (S "law_sj0091_01" 798) (R 408),
 t [],
 f N [],
 t [(S "node" 863),(S "kids" 864),(S "it" 865),(S "kid" 866)],
 t [],
 w (k 111) "_law_item",
 c "_law_item" "_law_item" 860 370 2 3 410 true (R 412) (R 413) (R 414) 867,
 F (k 111) "_law_item" N (S "law_sj0091_01" 798) (R 415),
 t [],
 f N [],
 t [(S "w" 873),(S "kind" 874),(S "kid" 875),(S "it" 876),(S "word" 877)],
 t [],
 w (k 112) "_law_same",
 c "_law_same" "_law_same" 870 381 3 3 417 true (R 419) (R 420) (R 421) 878,
 F (k 112) "_law_same" N (S "law_sj0091_01" 798) (R 422),
 t [],
 f N [],
 t [(S "w" 884),(S "it" 885)],
 t [],
 w (k 113) "_law_shut",
 c "_law_shut" "_law_shut" 881 386 2 3 424 true (R 426) (R 427) (R 428) 886,
 F (k 113) "_law_shut" N (S "law_sj0091_01" 798) (R 429),
 t [],
 f N [],
 t [(S "w" 892),(S "it" 893)],
 t [],
 w (k 114) "_law_hold",
 c "_law_hold" "_law_hold" 889 388 2 3 431 true (R 433) (R 434) (R 435) 894,
 F (k 114) "_law_hold" N (S "law_sj0091_01" 798) (R 436),
 t [],
 f N [],
 t [(S "w" 900),(S "it" 901)],
 t [],
 w (k 115) "_law_part",
 c "_law_part" "_law_part" 897 390 2 3 438 true (R 440) (R 441) (R 442) 902,
 F (k 115) "_law_part" N (S "law_sj0091_01" 798) (R 443),
 t [],
 f N [],
 t [(S "w" 908),(S "text" 909),(S "node" 910),(S "it" 911),(S "sid" 912)],
 t [],
 w (k 116) "_law_name",
 c "_law_name" "_law_name" 905 392 2 3 445 true (R 447) (R 448) (R 449) 913,
 F (k 116) "_law_name" N (S "law_sj0091_01" 798) (R 450),
 t [],
 f N [],
 t [(S "w" 919),(S "q" 920),(S "sort" 921),(S "it" 922)],
 t [],
 w (k 117) "_law_leaf",
 c "_law_leaf" "_law_leaf" 916 401 2 3 452 true (R 454) (R 455) (R 456) 923,
 F (k 117) "_law_leaf" N (S "law_sj0091_01" 798) (R 457),
 t [],
 f N [],
 t [(S "w" 929),(S "q" 930),(S "kid" 931),(S "name" 932),(S "flag" 933),(S "way" 934),(S "node" 935),(S "index" 936),(S "it" 937)],
 t [],
 w (k 118) "_law_member",
 c "_law_member" "_law_member" 926 411 3 3 459 true (R 461) (R 462) (R 463) 938,
 F (k 118) "_law_member" N (S "law_sj0091_01" 798) (R 464),
 t [],
 f N [],
 t [(S "w" 944),(S "q" 945),(S "new" 946),(S "kids" 947),(S "callee" 948),(S "parts" 949),(S "args" 950),(S "nodes" 951),(S "more" 952),(S "kid" 953),(S "part" 954),(S "flag" 955),(S "rest" 956),(S "node" 957),(S "it" 958)],
 t [],
 w (k 119) "_law_call",
 c "_law_call" "_law_call" 941 437 4 3 466 true (R 468) (R 469) (R 470) 959,
 F (k 119) "_law_call" N (S "law_sj0091_01" 798) (R 471),
 t [],
 f N [],
 t [(S "w" 965),(S "it" 966),(S "fits" 967)],
 t [],
 w (k 120) "_law_target",
 c "_law_target" "_law_target" 962 466 2 3 473 true (R 475) (R 476) (R 477) 968,
 F (k 120) "_law_target" N (S "law_sj0091_01" 798) (R 478),
 t [],
 f N [],
 t [(S "it" 974)],
 t [],
 w (k 121) "_law_spot_of",
 c "_law_spot_of" "_law_spot_of" 971 469 1 3 480 true (R 482) (R 483) (R 484) 975,
 F (k 121) "_law_spot_of" N (S "law_sj0091_01" 798) (R 485),
 t [],
 f N [],
 t [(S "w" 981),(S "it" 982),(S "spots" 983)],
 t [],
 w (k 122) "_law_set",
 c "_law_set" "_law_set" 978 471 3 3 487 true (R 489) (R 490) (R 491) 984,
 F (k 122) "_law_set" N (S "law_sj0091_01" 798) (R 492),
 t [],
 f N [],
 w (k 123) "_law_assign",
 c "_law_assign" "_law_assign" 987 476 3 3 494 true N N (R 496) 990,
 F (k 123) "_law_assign" N (S "law_sj0091_01" 798) (R 497),
 t [],
 f N [],
 t [(S "w" 996),(S "q" 997),(S "kid" 998),(S "sign" 999),(S "it" 1000)],
 t [],
 w (k 124) "_law_unary",
 c "_law_unary" "_law_unary" 993 501 3 3 499 true (R 501) (R 502) (R 503) 1001,
 F (k 124) "_law_unary" N (S "law_sj0091_01" 798) (R 504),
 t [],
 f N [],
 t [(S "w" 1007),(S "q" 1008),(S "kid" 1009),(S "none" 1010),(S "it" 1011),(S "field" 1012),(S "rows" 1013)],
 t [],
 w (k 125) "_law_within",
 c "_law_within" "_law_within" 1004 512 3 3 506 true (R 508) (R 509) (R 510) 1014,
 F (k 125) "_law_within" N (S "law_sj0091_01" 798) (R 511),
 t [],
 f N [],
 w (k 126) "_law_join",
 c "_law_join" "_law_join" 1017 524 4 3 513 true N N (R 515) 1020,
 F (k 126) "_law_join" N (S "law_sj0091_01" 798) (R 516),
 t [],
 f N [],
 w (k 127) "_law_step",
 c "_law_step" "_law_step" 1023 552 2 3 518 true N N (R 520) 1026,
 F (k 127) "_law_step" N (S "law_sj0091_01" 798) (R 521),
 t [],
 f N [],
 t [(S "w" 1032)],
 t [],
 w (k 128) "_law_roll",
 c "_law_roll" "_law_roll" 1029 562 1 3 523 true (R 525) (R 526) (R 527) 1033,
 F (k 128) "_law_roll" N (S "law_sj0091_01" 798) (R 528),
 t [],
 f N [],
 t [(S "w" 1039),(S "out" 1040),(S "name" 1041),(S "v" 1042)],
 t [],
 w (k 129) "_law_trace",
 c "_law_trace" "_law_trace" 1036 565 1 3 530 true (R 532) (R 533) (R 534) 1043,
 F (k 129) "_law_trace" N (S "law_sj0091_01" 798) (R 535),
 t [],
 f N [],
 t [(S "w" 1049),(S "deed" 1050),(S "sort" 1051),(S "box" 1052),(S "name" 1053),(S "v" 1054),(S "before" 1055)],
 t [],
 w (k 130) "_law_lay",
 c "_law_lay" "_law_lay" 1046 571 6 3 537 true (R 539) (R 540) (R 541) 1056,
 F (k 130) "_law_lay" N (S "law_sj0091_01" 798) (R 542),
 t [],
 f N [],
 t [(S "w" 1062),(S "deed" 1063),(S "sort" 1064),(S "r" 1065),(S "v" 1066)],
 t [],
 w (k 131) "_law_strike",
 c "_law_strike" "_law_strike" 1059 580 3 3 544 true (R 546) (R 547) (R 548) 1067,
 F (k 131) "_law_strike" N (S "law_sj0091_01" 798) (R 549),
 t [],
 f N [],
 t [(S "v" 1073)],
 t [],
 w (k 132) "_law_null",
 c "_law_null" "_law_null" 1070 587 1 3 551 true (R 553) (R 554) (R 555) 1074,
 F (k 132) "_law_null" N (S "law_sj0091_01" 798) (R 556),
 t [],
 f N [],
 t [(S "w" 1080),(S "node" 1081),(S "v" 1082),(S "name" 1083),(S "index" 1084)],
 t [],
 w (k 133) "_law_spot",
 c "_law_spot" "_law_spot" 1077 589 2 3 558 true (R 560) (R 561) (R 562) 1085,
 F (k 133) "_law_spot" N (S "law_sj0091_01" 798) (R 563),
 t [],
 f N [],
 t [(S "w" 1091),(S "node" 1092),(S "v" 1093)],
 t [],
 w (k 134) "_law_asks",
 c "_law_asks" "_law_asks" 1088 604 3 3 565 true (R 567) (R 568) (R 569) 1094,
 F (k 134) "_law_asks" N (S "law_sj0091_01" 798) (R 570),
 t [],
 f N [],
 t [(S "w" 1100),(S "spot" 1101),(S "node" 1102),(S "v" 1103),(S "name" 1104)],
 t [],
 w (k 135) "_law_read",
 c "_law_read" "_law_read" 1097 609 2 3 572 true (R 574) (R 575) (R 576) 1105,
 F (k 135) "_law_read" N (S "law_sj0091_01" 798) (R 577),
 t [],
 f N [],
 t [(S "w" 1111),(S "deed" 1112),(S "spot" 1113),(S "v" 1114),(S "node" 1115),(S "base" 1116),(S "name" 1117)],
 t [],
 w (k 136) "_law_write",
 c "_law_write" "_law_write" 1108 622 4 3 579 true (R 581) (R 582) (R 583) 1118,
 F (k 136) "_law_write" N (S "law_sj0091_01" 798) (R 584),
 t [],
 f N [],
 t [(S "sign" 1124),(S "v" 1125),(S "truth" 1126)],
 t [],
 w (k 137) "_law_stops",
 c "_law_stops" "_law_stops" 1121 634 2 3 586 true (R 588) (R 589) (R 590) 1127,
 F (k 137) "_law_stops" N (S "law_sj0091_01" 798) (R 591),
 t [],
 f N [],
 t [(S "w" 1133),(S "deed" 1134),(S "pattern" 1135),(S "v" 1136),(S "seat" 1137),(S "spot" 1138),(S "piece" 1139)],
 t [],
 w (k 138) "_law_unpack",
 c "_law_unpack" "_law_unpack" 1130 639 4 3 593 true (R 595) (R 596) (R 597) 1140,
 F (k 138) "_law_unpack" N (S "law_sj0091_01" 798) (R 598),
 t [],
 f N [],
 t [(S "w" 1146),(S "node" 1147),(S "left" 1148),(S "right" 1149),(S "v" 1150),(S "spot" 1151),(S "old" 1152)],
 t [],
 w (k 139) "_law_given",
 c "_law_given" "_law_given" 1143 654 2 3 600 true (R 602) (R 603) (R 604) 1153,
 F (k 139) "_law_given" N (S "law_sj0091_01" 798) (R 605),
 t [],
 f N [],
 t [(S "w" 1159),(S "node" 1160),(S "v" 1161),(S "arg" 1162)],
 t [],
 w (k 140) "_law_called",
 c "_law_called" "_law_called" 1156 671 2 3 607 true (R 609) (R 610) (R 611) 1163,
 F (k 140) "_law_called" N (S "law_sj0091_01" 798) (R 612),
 t [],
 f N [],
 t [(S "w" 1169),(S "call" 1170),(S "callee" 1171)],
 t [],
 w (k 141) "_law_is_global",
 c "_law_is_global" "_law_is_global" 1166 684 2 3 614 true (R 616) (R 617) (R 618) 1172,
 F (k 141) "_law_is_global" N (S "law_sj0091_01" 798) (R 619),
 t [],
 f N [],
 t [(S "w" 1178),(S "node" 1179),(S "v" 1180),(S "place" 1181),(S "chain" 1182)],
 t [],
 w (k 142) "_law_signed",
 c "_law_signed" "_law_signed" 1175 689 2 3 621 true (R 623) (R 624) (R 625) 1183,
 F (k 142) "_law_signed" N (S "law_sj0091_01" 798) (R 626),
 t [],
 f N [],
 t [(S "w" 1189),(S "node" 1190),(S "kind" 1191),(S "v" 1192),(S "spot" 1193),(S "other" 1194)],
 t [],
 w (k 143) "_law_go",
 c "_law_go" "_law_go" 1186 702 2 3 628 true (R 630) (R 631) (R 632) 1195,
 F (k 143) "_law_go" N (S "law_sj0091_01" 798) (R 633),
 t [],
 f N [],
 w (k 144) "_law_hits",
 c "_law_hits" "_law_hits" 1198 738 2 3 635 true N N (R 637) 1201,
 F (k 144) "_law_hits" N (S "law_sj0091_01" 798) (R 638),
 t [],
 f N [],
 w (k 145) "_law_tells",
 c "_law_tells" "_law_tells" 1204 743 2 3 640 true N N (R 642) 1207,
 F (k 145) "_law_tells" N (S "law_sj0091_01" 798) (R 643),
 t [],
 f N [],
 w (k 146) "_law_read_right",
 c "_law_read_right" "_law_read_right" 1210 745 3 3 645 true N N (R 647) 1213,
 F (k 146) "_law_read_right" N (S "law_sj0091_01" 798) (R 648),
 t [],
 f N [],
 w (k 147) "_law_run_right",
 c "_law_run_right" "_law_run_right" 1216 762 3 3 650 true N N (R 652) 1219,
 F (k 147) "_law_run_right" N (S "law_sj0091_01" 798) (R 653),
 t [],
 f N [],
 w (k 148) "_law_nodes_right",
 c "_law_nodes_right" "_law_nodes_right" 1222 785 2 3 655 true N N (R 657) 1225,
 F (k 148) "_law_nodes_right" N (S "law_sj0091_01" 798) (R 658),
 t [],
 f N [],
 w (k 149) "_law_clauses_right",
 c "_law_clauses_right" "_law_clauses_right" 1228 814 2 3 660 true N N (R 662) 1231,
 F (k 149) "_law_clauses_right" N (S "law_sj0091_01" 798) (R 663),
 t [],
 f N [],
 w (k 150) "law",
 c "law" "law" 1234 834 1 3 665 true N N (R 667) 1237,
 F (k 150) "law" N (S "law_sj0091_01" 798) (R 668)]
noncomputable def os(b:Bool)(n:Str)(u k l j:Nat)(P:Params):List Obj:=[boot_o_0 P,boot_o_1 P,o2 P b,o3 P n u k,boot_o_4 P,boot_o_5 P,boot_o_6 P,boot_o_7 P,boot_o_8 P,boot_o_9 P,boot_o_10 P,t [],VQ l,c "<module>" "<module>" 182 1 0 0 11 false N N N 185,fr [some (R 13),some (R 3),some (R 3),none,some (S "__main__" 164),none,some (R 0)]]++(rest P).take j
noncomputable def alt:List Obj->List Obj×List Obj
 | []=>([],[])
 | x::r=>(x::(alt r).2,(alt r).1)
noncomputable def tr:Nat->List Obj->BT
 | 0,_=>.nil
 | _ + 1,[]=>.nil
 | n + 1,x::r=>.node x (tr n (alt r).1) (tr n (alt r).2)
noncomputable def eR:Env:={scope:=pR.main.scope,locals:=mainNs,globals:=mainNs,cells:=[],code:=.ref 13,frame:=some 14}
noncomputable abbrev cR:Code:=.body (behindTheImports pR) eR
noncomputable abbrev p0:Pos:={line:=0,col:=0,endLine:=0,endCol:=0}
noncomputable def st(b:Bool)(n:Str)(u k l j a:Nat)(w:World)(o:OsState):SharedT:={tree:=tr 11 (os b n u k l j w.params),n:=15 + j,life:={},gens:= #[],drawn:={},toks:=a,os:=o}
noncomputable def pc(a n:Nat):List Stmt:=(bR.drop a).take n
noncomputable def go(n:Nat)(s:SharedT)(a l:Nat)(p:Pos)(w:World):=segRunT treeTable pR w 11 (some (.ref 6)) 1 n s (piecesOf (pc a l) eR cR p [topFrame p0])
theorem g0(w:World):(λo=>go 814 (st false "__main__" 164 8 0 0 187 w o) 0 47 p0 w)=λo=>some (.next,st false "kindkeep.diags" 363 53 27 77 365 w o,cR,⟨103,0,103,8⟩):=by kernel_rfl
theorem g1(w:World):(λo=>go 1005 (st false "kindkeep.diags" 363 53 27 77 365 w o) 47 36 ⟨103,0,103,8⟩ w)=λo=>some (.next,st true "kindkeep.flow" 520 87 63 185 552 w o,cR,⟨207,0,208,66⟩):=by kernel_rfl
theorem g2(w:World):(λo=>go 930 (st true "kindkeep.flow" 520 87 63 185 552 w o) 83 17 ⟨207,0,208,66⟩ w)=λo=>some (.next,st true "kindkeep.narrowplain" 730 101 102 346 772 w o,cR,⟨328,0,337,16⟩):=by kernel_rfl
theorem g3(w:World):(λo=>go 782 (st true "kindkeep.narrowplain" 730 101 102 346 772 w o) 100 27 ⟨328,0,337,16⟩ w)=λo=>some (.next,st true "law_sj0091_01" 798 126 165 503 1023 w o,cR,⟨524,0,551,13⟩):=by kernel_rfl
theorem g4(w:World):(λo=>go 730 (st true "law_sj0091_01" 798 126 165 503 1023 w o) 127 24 ⟨524,0,551,13⟩ w)=λo=>some (.next,st true "law_sj0091_01" 798 150 237 655 1240 w o,cR,⟨834,0,851,72⟩):=by kernel_rfl
noncomputable abbrev SE(w:World)(o:OsState):SharedT:=st true "law_sj0091_01" 798 150 237 655 1240 w o
noncomputable abbrev S0(w:World)(o:OsState):SharedT:=st false "__main__" 164 8 0 0 187 w o
noncomputable def H0(P:Params):Heap:=⟨⟨os false "__main__" 164 8 0 0 P⟩,{}⟩
noncomputable def H1(P:Params):Heap:=⟨⟨os true "law_sj0091_01" 798 150 237 655 P⟩,{}⟩
theorem pre(w:World):(λo=>topGo treeTable pR w 11 (some (.ref 6)) 12 ⟨boot_heap w.params, #[],boot_drawn,boot_toks,o⟩ (topStub pR))=λo=>some (⟨H0 w.params, #[],{},187,o⟩,⟨denote treeTable cR,cR,p0,[topFrame p0]⟩):=by kernel_rfl
theorem WK(w:World):(λo=>segRun treeTable pR w 11 (some (.ref 6)) 1 1 ⟨H0 w.params, #[],{},187,o⟩ (blockOf (behindTheImports pR) eR cR p0 [topFrame p0]))=λo=>some (.next,(S0 w o).abs,cR,p0):=by kernel_rfl
theorem fin(w:World):(λo=>topRun treeTable pR w 11 (some (.ref 6)) 2 (SE w o).abs ⟨doneF .next,cR,⟨834,0,851,72⟩,[topFrame p0]⟩)=λo=>some ⟨H1 w.params, #[],{},1240,o⟩:=by kernel_rfl
theorem all:pc 0 47++(pc 47 36++(pc 83 17++(pc 100 27++(pc 127 24++[]))))=behindTheImports pR:=by kernel_rfl
theorem sg{n a l:Nat}{s s':World->OsState->SharedT}{p p':Pos}{w:World}(h:(λo=>go n (s w o) a l p w)=λo=>some (.next,s' w o,cR,p'))(o:OsState):segRun treeTable pR w 11 (some (.ref 6)) 1 n (s w o).abs (piecesOf (pc a l) eR cR p [topFrame p0])=some (.next,(s' w o).abs,cR,p'):=segRun_of (congrFun h o)
theorem run(w:World)(o:OsState):topRun treeTable pR w 11 (some (.ref 6)) (12 + (1 + (814 + (1005 + (930 + (782 + (730 + 2))))))) ⟨boot_heap w.params, #[],boot_drawn,boot_toks,o⟩ (topStub pR)=some ⟨H1 w.params, #[],{},1240,o⟩:=
 go_top (congrFun (pre w) o) (piece_block (congrFun (WK w) o) ((congrArg (λl=>topRun treeTable pR w 11 (some (.ref 6)) (814 + (1005 + (930 + (782 + (730 + 2))))) (S0 w o).abs (restOf l eR cR p0 [topFrame p0])) all).symm.trans
  (piece_app (sg (g0 w) o) (piece_app (sg (g1 w) o) (piece_app (sg (g2 w) o) (piece_app (sg (g3 w) o) (piece_app (sg (g4 w) o) (piece_nil (congrFun (fin w) o)))))))))
theorem gB:∀w:World,(fencedOpening treeTable pR w 9000).map (λs=>(s.heap,s.gens,s.drawn,s.toks))=some (boot_heap w.params,Array.mk [],boot_drawn,boot_toks):=boot_open (by kernel_rfl) (by kernel_rfl) (λs=>by kernel_rfl)
theorem VE(w:World):((boot_heap w.params).isNs mainGlobals&&(#[]:Array GenState).size==0,(boot_heap w.params).objs.size,(boot_heap w.params).nsMap mainGlobals "__annotations__")=(true,11,some (Value.ref 6)):=by kernel_rfl
abbrev rR:=Challenge.rw_sj0091_01.row
noncomputable def q:Program:={pR with main:={pR.main with body:=[k 150]}}
noncomputable def loose:List Str:=(pR.main.scope.names.map (·.1)).filter λn=> !startupNames.contains n&& !(n==Str.ofString "law")
noncomputable def Kf(P:Params):Frag:=(List.range 670).zip (os true "law_sj0091_01" 798 150 237 655 P)
noncomputable def hk:Hook:=kHook Kf (List.range 670) (λ_=>by kernel_rfl)
theorem wj:(defOf q "law").isSome=true:=by kernel_rfl
noncomputable def dk:DefRec×List (Str×Expr):=(defOf q "law").get wj
theorem k2:(chainsOk q&&opensWell rR.prog&&(frees rR.toRowW&&rR.within.isEmpty))=true:=by kernel_rfl
theorem k3:rR.prog.theDef rR.name=some (dk.1.params,dk.1.body,dk.1.scope):=by kernel_rfl
theorem k4:kwWritten? dk.1.params.kwonlyargs dk.1.params.kw_defaults=some dk.2:=by kernel_rfl
theorem k5:rR.prog.bare:=⟨rfl,rfl,rfl,rfl,rfl,by decide +kernel⟩
theorem k6:rR.toRowW.promised:=by w_witness2
noncomputable abbrev Xt:Shared->Bool:=λs=>xlAt q [] s&&recOk (RowW.records rR.toRowW) s
end Mn.H
end
section
open PySem PySem.W PyProof.Rows PySem.Calls
set_option maxRecDepth 100000
set_option maxHeartbeats 0
namespace Mn.H
theorem k1:OpenLaw.wellSaid Challenge.rw_sj0091_01=true:=by
 delta OpenLaw.wellSaid OpenRow.wellSaid OpenRow.partSaid OpenScript.wellSaid looksOpen
 repeat' with_reducible refine look_both ?_ ?_
 all_goals decide +kernel
end Mn.H
end
section
open PySem PySem.W PyProof.Rows PySem.Calls
set_option maxRecDepth 100000
namespace Mn.H
theorem wc{α:Type}:∀(l:List α) (n a:Nat) {o:α},List.lookup a ((List.range' n l.length).zip l)=some o->n<=a/\l[a - n]?=some o
 | [],n,a,o,h=>nomatch h
 | x::l,n,a,o,h=>by
  have h:(match a==n with | true=>some x | false=>List.lookup a ((List.range' (n + 1) l.length).zip l))=some o:=h
  by_cases q:a=n
  ·subst q;rw [beq_self_eq_true]at h;cases h;rw [Nat.sub_self];exact ⟨aO _,rfl⟩
  ·rw [beq_eq_false_iff_ne.mpr q]at h
   obtain ⟨h1,h2⟩:=wc l (n + 1) a h
   refine ⟨by omega,?_⟩
   rw [show a - n=(a - (n + 1)) + 1 by omega];exact h2
noncomputable def says(w:World)(h:Heap):Prop:=∀b o,(H1 w.params).get? b=some o->h.get? b=some o
noncomputable def Qg:Hook:=⟨Heap,λs=>s.heap,λw=>H1 w.params,says,λw s e b o h=>e▸h,λw h h' x k b o e=>k b o (x b o e)⟩
theorem LL(P:Params):(os true "law_sj0091_01" 798 150 237 655 P).length=670:=by kernel_rfl
noncomputable def lives(o:Obj):Bool:=match o with
 | ⟨_,_,.freed,_⟩=>false
 | _=>true
theorem FO(P:Params):(os true "law_sj0091_01" 798 150 237 655 P).all lives=true:=by kernel_rfl
theorem in_of{w:World}{h:Heap}(Y:says w h):(Kf w.params).In h:=λb o e=>by
 refine Y b o ?_
 unfold Kf at e
 rw [List.range_eq_range',<-LL w.params]at e
 have e:(os true "law_sj0091_01" 798 150 237 655 w.params)[b]?=some o:=(wc _ 0 b e).2
 have l:lives o=true:=List.all_eq_true.mp (FO w.params) o (List.mem_of_getElem? e)
 have e':(H1 w.params).objs[b]?=some o:=(List.getElem?_toArray (xs:=os true "law_sj0091_01" 798 150 237 655 w.params)).trans e
 unfold Heap.get?
 rw [e']
 obtain ⟨c,d,x,s⟩:=o
 cases x <;> first | rfl | cases l
noncomputable abbrev SF(w:World)(o:OsState):Shared:=⟨H1 w.params, #[],{},1240,o⟩
theorem l1(w:World):namesBound pR (H1 w.params)=true:=by kernel_rfl
theorem l2(w:World):(λo=>(staticsOk (importedModules pR.main.body) (H0 w.params) (H1 w.params)&&namesBound pR (H1 w.params)&&gensDone (SF w o)&&laidKept (H0 w.params) (H1 w.params)))=λ_=>true:=by rw [l1];kernel_rfl
theorem l3(w:World):(λo=>seen ((recsOf q).map (·.name)) (ownsOf q) [] {(SF w o)with gens:= #[]})=λ_=>expectedOf q:=by kernel_rfl
theorem l4(w:World):(λo=>(SF w o).heap.keysOk (looseW q loose) ((recsOf q).map (·.name)) ((litsOf q).map (·.1)) ((clssOf q (looseW q loose)).map (·.name)))=λ_=>true:=by kernel_rfl
theorem l5(w:World):(λo=>(SF w o).heap.keysOk (looseW q loose) ((recsOf q).map (·.name)) ((litsOf q).map (·.1)) ((clssOf q (looseW q loose)).map (·.name))&&(SF w o).heap.accountedOkI (importedModules pR.main.body)&&(SF w o).heap.isNs mainGlobals&&(SF w o).heap.isNs builtinsNs&&tablesOk q (SF w o).heap&&Xt (SF w o)&&(if true then (SF w o).gens.size==0 else !leftWithCleanup (SF w o).gens))=λ_=>true:=funext λo=>by
 rw [congrFun (l4 w) o];kernel_rfl
theorem l6(w:World):(λo=>wideSeen q (SF w o))=λ_=>wideGood q:=by kernel_rfl
theorem l7(w:World):(λo=>tabsOk q (SF w o))=λ_=>true:=by kernel_rfl
theorem l8(w:World)(o:OsState):openSeen q loose (importedModules pR.main.body) Xt true (SF w o)=openGood q loose:=
 looks_pair (congrFun (l3 w) o) (looks_pair (by kernel_rfl) (looks_pair (congrFun (l5 w) o) (looks_pair (congrFun (l7 w) o) (looks_pair (by kernel_rfl) (looks_pair (by kernel_rfl) (looks_pair (by kernel_rfl) (looks_pair (congrFun (l6 w) o) (by kernel_rfl))))))))
theorem left:LeftO rR.prog q loose Xt Qg.obs Qg.val 9000:=LeftO.of_pieces gB VE run (by kernel_rfl) λw=>funext λo=>looks_pair (congrFun (l2 w) o) (looks_pair (l8 w o) rfl)
theorem top(walk:WalkO q loose (XL q []) Qg.says rR.toRowW dk.1 dk.2 λf vs=>PySem.call f vs):Challenge.rw_sj0091_01.Holds:=
 holds_law k1 λsaid=>holds_open left Qg.of Qg.keeps (λs e=>xl_of s (Bool.and_eq_true_iff.mp e).1) XL.keeps (Option.some_get wj).symm k3 k4 (λs e=>recFacts_of (Bool.and_eq_true_iff.mp e).2) rfl said k2 k5 k6 walk
end Mn.H
end
section
namespace Mn
set_option genInjectivity false
set_option autoImplicit true
noncomputable abbrev Sx:=List Nat
set_option genCtorIdx true in
inductive aa where
 | undef | none | bool (b:Bool) | int (i:Int) | str (s:Sx)
 | tup (xs:List aa) | list (xs:List aa)
 | sd (kvs:List (Sx×aa)) | eg (kvs:List (Int×aa))
 | inst (c:Nat) (fs:List (Sx×aa))
 | rT (a:Int) (n:Nat)
 | bw (k id:Nat) | af (id:Nat)
set_option genCtorIdx true in
inductive ak where
 | list (xs:List aa) | sd (kvs:List (Sx×aa)) | eg (kvs:List (Int×aa)) | inst (c:Nat) (did:Nat) | ns (kvs:List (Sx×aa))
inductive Mode where
 | f | d | g (k:Nat)
set_option genCtorIdx true in
inductive AG where
 | eq | ne | lt | le | gt | ge | is | fh | in | nr
set_option genCtorIdx true in
inductive B1 where
 | len | any | all | sorted | max | str
inductive ji where
 | v (i:Nat) | tup (is:List Nat)
inductive ME where
 | c (v:aa) | gc (n:Sx) (v:aa) | v (i:Nat)
 | add (m:Mode) (a b:ME) | sub (a b:ME) | mod (a b:ME) | fdiv (a b:ME) | band (a b:ME) | neg (a:ME)
 | not (a:ME) | and (es:List ME) | or (es:List ME) | ite (c a b:ME)
 | cmp (o:AG) (a b:ME) | BP (o p:AG) (a b c:ME)
 | attr (a:ME) (n:Sx) | item (a i:ME) | slice (a:ME) (lo hi:Option ME)
 | tup (es:List ME) | list (m:Mode) (es:List ME) | fN (m:Mode) (ks:List Sx) (es:List ME) | lX (m:Mode) (ks:List Int) (es:List ME)
 | comp (m:Mode) (t:ji) (it:ME) (test:Option ME) (elt:ME)
 | call (f:Nat) (es:List ME) | new (c:Nat) (es:List ME) | mB (o:ME) (n:Sx) (es:List ME)
 | gW (a:ME) | qr (a b:ME) | max2 (a b:ME) | b1 (o:B1) (a:ME)
 | append (a x:ME) | pop (a:ME) | Dx (a k d:ME) | extend (a b:ME) | get (a k d:ME) | split (a b:ME) | starts (a b:ME) | join (a b:ME)
inductive Vd where
 | v (i:Nat) | tup (is:List Nat) | item (a k:ME) | attr (a:ME) (n:Sx)
inductive MS where
 | asg (t:Vd) (e:ME) | aug (a k e:ME) | ex (e:ME) | ret (e:ME) | gs (e:ME) (ks:List Sx) | Dq
 | bx (c:ME) (th el:List MS) | wh (c:ME) (b:List MS) | fr (t:ji) (it:ME) (b:List MS) | Im (t:ji) (it:ME) (b:List MS) | cont | brk
 | kP (i:Nat) (ks:List Sx) | fj (i:Nat) (k:Sx) | nW (i:Nat)
set_option genCtorIdx true in
inductive Fl where
 | next | brk | cont | ret (v:aa)
structure Fn where
 np:Nat
 nv:Nat
 body:List MS
structure Hp where
 G:List (Option (Nat×ak))
 D:List (Nat×ak)
 n:Nat
structure Pg where
 fns:Nat->Option Fn
 init:Nat->Option Nat
 mB:Nat->Sx->Option Nat
 fields:Nat->List Sx
noncomputable abbrev Env:=List aa
noncomputable def LF:Nat:=1048576
noncomputable def small(n:Nat):Bool:=decide (n < LF)
section
variable{β:Type}
noncomputable def aa.gu(x:aa)(f:Int->β)(d:β):β:=match x with | .int i=>f i | _=>d
noncomputable def aa.iH(x:aa)(f:Sx->β)(d:β):β:=match x with | .str s=>f s | _=>d
noncomputable def aa.vS(x:aa)(f:List aa->β)(d:β):β:=match x with | .tup xs=>f xs | _=>d
noncomputable def aa.pQ(x:aa)(f:List aa->β)(d:β):β:=match x with | .list xs=>f xs | _=>d
noncomputable def aa.Ph(x:aa)(f:Bool->β)(d:β):β:=match x with | .bool b=>f b | _=>d
noncomputable def aa.vp(x:aa)(f d:β):β:=match x with | .none=>f | _=>d
noncomputable def aa.SM(x:aa)(f:List (Sx×aa)->β)(d:β):β:=match x with | .sd k=>f k | _=>d
noncomputable def aa.Li(x:aa)(f:Nat->List (Sx×aa)->β)(d:β):β:=match x with | .inst c k=>f c k | _=>d
noncomputable def aa.FY(x:aa)(f:Nat->β)(d:β):β:=match x with | .af i=>f i | _=>d
noncomputable def gj(x:aa):Bool:=match x with | .undef=>false | _=>true
noncomputable def oL(o:Option ak)(f:List aa->β)(d:β):β:=match o with | some (.list xs)=>f xs | _=>d
noncomputable def ie(o:Option ak)(f:List (Sx×aa)->β)(d:β):β:=match o with | some (.sd xs)=>f xs | _=>d
noncomputable def oF(o:Option ak)(f:List (Int×aa)->β)(d:β):β:=match o with | some (.eg xs)=>f xs | _=>d
noncomputable def FZ(o:Option ak)(f:Nat->Nat->β)(d:β):β:=match o with | some (.inst c i)=>f c i | _=>d
noncomputable def DK(o:Option ak)(f:List (Sx×aa)->β)(d:β):β:=match o with | some (.ns xs)=>f xs | _=>d
noncomputable def oS{α:Type}(o:Option α)(f:α->β)(d:β):β:=match o with | some x=>f x | none=>d
end
noncomputable def uO(b:Bool)(o:Option α):Option α:=bif b then o else none
noncomputable def lK:List (Nat×ak)->Nat->ak->List (Nat×ak)
 | [],_,_=>[]
 | p::r,i,o=>bif Nat.beq p.1 i then (p.1,o)::r else p::lK r i o
noncomputable def d4:List (Nat×ak)->Nat->List (Nat×ak)
 | [],_=>[]
 | p::r,i=>bif Nat.beq p.1 i then d4 r i else p::d4 r i
noncomputable def d0:List (Nat×ak)->Nat->Option ak
 | [],_=>none
 | p::r,i=>bif Nat.beq p.1 i then some p.2 else d0 r i
noncomputable def pI(o:Option (Option (Nat×ak)))(id:Nat):Option ak:=match o with
 | some (some p)=>bif Nat.beq p.1 id then some p.2 else none
 | _=>none
noncomputable def Hp.get(h:Hp)(x:aa):Option ak:=match x with
 | .bw k id=>pI h.G[k]? id
 | .af id=>d0 h.D id
 | _=>none
noncomputable def Hp.put(h:Hp)(x:aa)(o:ak):Hp:=match x with
 | .bw k id=>{h with G:=h.G.set k (some (id,o))}
 | .af id=>{h with D:=lK h.D id o}
 | _=>h
noncomputable def Hp.del(h:Hp)(x:aa):Hp:=match x with
 | .bw k _=>{h with G:=h.G.set k none}
 | .af id=>{h with D:=d4 h.D id}
 | _=>h
noncomputable abbrev HM(α:Type):=Hp->Option (α×Hp)
section
variable{α β:Type}
noncomputable def no:HM α:=λ_=>none
noncomputable def aj(a:α):HM α:=λh=>some (a,h)
noncomputable def aL(m:HM α)(k:α->HM β):HM β:=λh=>match m h with
 | some (a,h)=>k a h
 | none=>none
noncomputable def lO(p:Hp->Option α):HM α:=λh=>match p h with
 | some a=>some (a,h)
 | none=>none
noncomputable def gd(b:Bool)(m:HM α):HM α:=bif b then m else no
noncomputable def hY(o:Option α)(k:α->HM β):HM β:=match o with
 | some a=>k a
 | none=>no
noncomputable def gJ(q:Bool)(m n:HM α):HM α:=match q with
 | true=>m
 | false=>n
noncomputable def vo(f:Hp->Hp):HM aa:=λh=>some (.none,f h)
end
noncomputable def ak.frozen(o:ak):Option aa:=match o with
 | .list xs=>some (.list xs)
 | .sd kvs=>some (.sd kvs)
 | .eg kvs=>some (.eg kvs)
 | _=>none
noncomputable def ju(m:Mode)(o:ak):HM aa:=match m with
 | .f=>hY o.frozen aj
 | .d=>λh=>some (.af h.n,{h with D:=(h.n,o)::h.D,n:=h.n + 1})
 | .g k=>λh=>bif Nat.blt k h.G.length then some (.bw k h.n,{h with G:=h.G.set k (some (h.n,o)),n:=h.n + 1})else none
noncomputable def VC:Sx->Sx->Bool
 | [],[]=>true
 | a::x,b::y=>Nat.beq a b&&VC x y
 | _,_=>false
section
variable{κ α:Type} [DecidableEq κ]
noncomputable def i7:List (κ×α)->κ->Option α
 | [],_=>none
 | p::r,i=>if p.1=i then some p.2 else i7 r i
noncomputable def i5:List (κ×α)->κ->α->List (κ×α)
 | [],i,v=>[(i,v)]
 | p::r,i,v=>if p.1=i then (p.1,v)::r else p::i5 r i v
noncomputable def Bl:List (κ×α)->κ->List (κ×α)
 | [],_=>[]
 | p::r,i=>if p.1=i then r else p::Bl r i
end
noncomputable abbrev bZ(l:List (Sx×aa))(i:Sx):Option aa:=i7 l i
noncomputable abbrev sset(l:List (Sx×aa))(i:Sx)(v:aa):List (Sx×aa):=i5 l i v
noncomputable abbrev GR(l:List (Sx×aa))(i:Sx):List (Sx×aa):=Bl l i
noncomputable abbrev cU(l:List (Int×aa))(i:Int):Option aa:=i7 l i
noncomputable abbrev kJ(l:List (Int×aa))(i:Int)(v:aa):List (Int×aa):=i5 l i v
noncomputable def bH(h:Hp)(x:aa):Option ak:=match x with
 | .list xs=>some (.list xs)
 | .sd kvs=>some (.sd kvs)
 | .eg kvs=>some (.eg kvs)
 | .bw k id=>h.get (.bw k id)
 | .af id=>h.get (.af id)
 | _=>none
noncomputable def om(h:Hp)(x:aa):Option (List aa):=x.vS some (oL (bH h x) some none)
noncomputable def rP(l:List α)(x:β):Option β:=bif small l.length then some x else none
noncomputable def truth(h:Hp)(x:aa):Option Bool:=
 x.vp (some false) <| x.Ph some <| x.gu (λi=>some (i != 0)) <| x.iH (λs=>rP s !s.isEmpty) <| x.vS (λs=>rP s !s.isEmpty) <|
 oL (bH h x) (λs=>rP s !s.isEmpty) <| ie (bH h x) (λs=>rP s !s.isEmpty) <| oF (bH h x) (λs=>rP s !s.isEmpty) none
noncomputable def hG:Nat->aa->Bool
 | _,.none=>true
 | _,.bool _=>true
 | _,.int _=>true
 | _,.str _=>true
 | n + 1,.tup xs=>xs.all (hG n)
 | n + 1,.list xs=>xs.all (hG n)
 | _,_=>false
mutual
noncomputable def uU:aa->aa->Bool
 | .none,y=>y.vp true false
 | .bool a,y=>y.Ph (λb=>a==b) <| y.gu (λj=>(bif a then 1 else 0)==j) false
 | .int i,y=>y.gu (λj=>i==j) <| y.Ph (λb=>i==(bif b then 1 else 0)) false
 | .str a,y=>y.iH (λb=>a==b) false
 | .tup xs,y=>y.vS (λys=>pJ xs ys) false
 | .list xs,y=>y.pQ (λys=>pJ xs ys) false
 | _,_=>false
noncomputable def pJ:List aa->List aa->Bool
 | [],ys=>ys.isEmpty
 | x::xs,ys=>match ys with
  | []=>false
  | y::ys=>uU x y&&pJ xs ys
end
noncomputable def rS(x y:aa):Option Bool:=bif hG 3 x&&hG 3 y then some (uU x y)else x.SM (λ_=>y.vp (some false) none) none
noncomputable def xx(x:aa):List aa->Option Bool
 | []=>some false
 | y::ys=>oS (rS y x) (λa=>oS (xx x ys) (λb=>some (a ||b)) none) none
noncomputable def fK(n:Nat)(i:Int):Nat:=if i < 0 then n - (-i).toNat else min i.toNat n
noncomputable def j8{α:Type}(xs:List α)(lo hi:Option Int):List α:=
 let a:=match lo with | none=>0 | some i=>fK xs.length i
 let b:=match hi with | none=>xs.length | some i=>fK xs.length i
 (xs.drop a).take (b - a)
noncomputable def px{α:Type}(xs:List α)(i:Int):Option α:=
 if 0<=i then xs[i.toNat]? else if 0<=i + xs.length then xs[(i + xs.length).toNat]? else none
noncomputable def cN(c:Nat):Sx->List Sx
 | []=>[[]]
 | x::r=>if x=c then []::cN c r else match cN c r with
  | []=>[[x]]
  | w::ws=>(x::w)::ws
noncomputable def gi(sep:Sx):List Sx->Sx
 | []=>[]
 | [x]=>x
 | x::r=>x++sep++gi sep r
noncomputable def cv:Sx->Sx->Bool
 | [],_=>true
 | _::_,[]=>false
 | a::x,b::y=>a=b&&cv x y
noncomputable def Hi(f:aa->Option α):List aa->Option (List α)
 | []=>some []
 | x::r=>oS (f x) (λy=>oS (Hi f r) (λys=>some (y::ys)) none) none
noncomputable def strsOf:List aa->Option (List Sx):=Hi λx=>x.iH some none
noncomputable def intsOf:List aa->Option (List Int):=Hi λx=>x.gu some none
noncomputable def boolsOf:List aa->Option (List Bool):=Hi λx=>x.Ph some none
noncomputable def insI(x:Int):List Int->List Int
 | []=>[x]
 | y::r=>if x<=y then x::y::r else y::insI x r
noncomputable def sortI:List Int->List Int
 | []=>[]
 | x::r=>insI x (sortI r)
noncomputable def oJ(a:Int):List Int->Int
 | []=>a
 | x::r=>oJ (if a < x then x else a) r
noncomputable def gV(a:Int):Nat->List aa
 | 0=>[]
 | n + 1=>.int a::gV (a + 1) n
noncomputable def itemsOf(x:aa):Option (List aa):=match x with
 | .list xs=>some xs
 | .tup xs=>some xs
 | .rT a n=>some (gV a n)
 | _=>none
noncomputable def bindL(env:Env)(is:List Nat)(xs:List aa):Option Env:=bif Nat.beq is.length xs.length then some ((is.zip xs).foldl (λe p=>e.set p.1 p.2) env)else none
noncomputable def gq(env:Env)(t:ji)(x:aa):Option Env:=match t with
 | .v i=>some (env.set i x)
 | .tup is=>x.vS (bindL env is) (x.pQ (bindL env is) none)
noncomputable def sm(n:Nat)(m:HM α):HM α:=gd (small n) m
noncomputable def SP(x:aa)(k:Option ak->HM α):HM α:=λh=>k (bH h x) h
noncomputable def Cd(m:Mode)(x y:aa):HM aa:=
 x.gu (λa=>y.gu (λb=>aj (.int (a + b))) no) <|
 x.iH (λa=>y.iH (λb=>sm (a.length + b.length) (aj (.str (a++b)))) no) <|
 x.vS (λa=>y.vS (λb=>sm (a.length + b.length) (aj (.tup (a++b)))) no) <|
 SP x λo=>SP y λp=>oL o (λa=>oL p (λb=>sm (a.length + b.length) (ju m (.list (a++b)))) no) no
noncomputable def arith(f:Int->Int->Option Int)(x y:aa):Option aa:=x.gu (λa=>y.gu (λb=>(f a b).map .int) none) none
noncomputable def Nu(x y:Int):Option Int:=if 0<=x/\0<=y then some ((x.toNat&&& y.toNat:Nat):Int)else none
noncomputable def eZ(x y:Int):Option Int:=if 0 < y/\y < 1073741824 then some (x % y)else none
noncomputable def E6(x y:Int):Option Int:=if 0 < y/\y < 1073741824 then some (x / y)else none
noncomputable def one?(s:Sx):Option Nat:=match s with
 | [c]=>some c
 | _=>none
noncomputable def RG(h:Hp)(a b:aa):Option Bool:=
 b.iH (λs=>a.iH (λt=>oS (one? t) (λc=>some (s.contains c)) none) none) <|
 oS (om h b) (xx a) <|
 ie (bH h b) (λkvs=>a.iH (λs=>some (bZ kvs s).isSome) (a.vp (some false) none)) <|
 oF (bH h b) (λkvs=>a.gu (λi=>some (cU kvs i).isSome) none) none
noncomputable def isNone(x:aa):Option Bool:=match x with
 | .undef=>none
 | .none=>some true
 | _=>some false
noncomputable def Tp(a b:aa):Option Bool:=b.vp (isNone a) none
noncomputable def DF(f:Int->Int->Bool)(x y:aa):Option Bool:=x.gu (λa=>y.gu (λb=>some (f a b)) none) none
noncomputable def vW(o:Option Bool):Option Bool:=oS o (λb=>some !b) none
noncomputable def ck(h:Hp)(o:AG)(a b:aa):Option Bool:=
 match o with
 | .eq=>uO (hG 3 a) (rS a b)
 | .ne=>uO (hG 3 a) (vW (rS a b))
 | .is=>Tp a b
 | .fh=>vW (Tp a b)
 | .in=>RG h a b
 | .nr=>vW (RG h a b)
 | .lt=>DF (λx y=>decide (x < y)) a b
 | .le=>DF (λx y=>decide (x<=y)) a b
 | .gt=>DF (λx y=>decide (x > y)) a b
 | .ge=>DF (λx y=>decide (x ≥ y)) a b
noncomputable def aY(h:Hp)(a i:aa):Option aa:=
 i.gu (λk=>oS (om h a) (λxs=>uO (decide (-1048576 < k/\k < 1048576)) (px xs k)) (oF (bH h a) (λkvs=>cU kvs k) none)) <|
 i.iH (λs=>ie (bH h a) (λkvs=>bZ kvs s) none) none
noncomputable def L8(x:aa):Option (Option Int):=x.vp (some none) (x.gu (λi=>some (some i)) none)
noncomputable def C7(xs:List aa):Option Int->Option Int->Option aa
 | some i,none=>if 1<=i/\i<=xs.length/\small xs.length then some (.tup (xs.drop i.toNat))else none
 | none,some i=>if 0<=i/\i < xs.length/\small xs.length then some (.tup (xs.take i.toNat))else none
 | _,_=>none
noncomputable def eK(h:Hp)(a lo hi:aa):Option aa:=
 oS (L8 lo) (λl=>oS (L8 hi) (λr=>
  a.vS (λxs=>C7 xs l r) <| a.iH (λs=>rP s (.str (j8 s l r))) <|
  oL (bH h a) (λxs=>rP xs (.list (j8 xs l r))) none) none) none
noncomputable def rQ(x:aa)(k:Option ak->HM α):HM α:=λh=>k (h.get x) h
noncomputable def de(a i v:aa):HM aa:=rQ a λo=>
 ie o (λkvs=>i.iH (λs=>sm kvs.length (vo λh=>h.put a (.sd (sset kvs s v)))) no) <|
 oF o (λkvs=>i.gu (λk=>sm kvs.length (vo λh=>h.put a (.eg (kJ kvs k v)))) no) no
noncomputable def yF(h:Hp)(x y z:aa):Option aa:=
 ie (bH h x) (λkvs=>y.iH (λs=>some ((bZ kvs s).getD z)) none) <|
 oF (bH h x) (λkvs=>y.gu (λi=>some ((cU kvs i).getD z)) none) none
noncomputable def vR(x:aa)(n:Sx)(y:aa):HM aa:=rQ x λo=>ie o (λkvs=>sm kvs.length (oS (bZ kvs n) (λv h=>some (v,h.put x (.sd (GR kvs n)))) (aj y))) no
noncomputable def fF(h:Hp)(x:aa):Bool:=oL (h.get x) (λ_=>true) false
noncomputable def gI(h:Hp)(x:aa):Bool:=ie (bH h x) (λ_=>true) (oF (bH h x) (λ_=>true) false)
noncomputable def cz(l y:aa):HM aa:=rQ l λo=>oL o (λxs=>sm xs.length (vo λh=>h.put l (.list (xs++[y])))) no
noncomputable def DA(l:aa):HM aa:=rQ l λo=>oL o (λxs=>oS xs.getLast? (λy=>sm xs.length λh=>some (y,h.put l (.list xs.dropLast))) no) no
noncomputable def lx(l:aa)(ys:List aa):HM aa:=rQ l λo=>oL o (λxs=>sm (xs.length + ys.length) (vo λh=>h.put l (.list (xs++ys)))) no
noncomputable def s8(h:Hp)(s:Sx)(y:aa):Option aa:=oS (om h y) (λxs=>oS (strsOf xs) (λl=>uO (small ((l.map (·.length)).sum + l.length * s.length)) (some (.str (gi s l)))) none) none
noncomputable def tw(h:Hp)(o:B1)(a:aa):Option aa:=
 match o with
 | .len=>a.vS (λxs=>rP xs (.int xs.length)) <| oL (bH h a) (λxs=>rP xs (.int xs.length)) <| ie (bH h a) (λxs=>rP xs (.int xs.length)) none
 | .any=>a.pQ (λxs=>oS (boolsOf xs) (λl=>some (.bool (l.any id))) none) none
 | .all=>a.pQ (λxs=>oS (boolsOf xs) (λl=>some (.bool (l.all id))) none) none
 | .sorted=>a.pQ (λxs=>uO (Nat.blt xs.length 64) (oS (intsOf xs) (λl=>some (.list ((sortI l).map .int))) none)) none
 | .max=>a.pQ (λxs=>oS (intsOf xs) (λl=>match l with | x::r=>some (.int (oJ x r)) | []=>none) none) none
 | .str=>a.gu (λi=>uO (decide (0<=i/\i < 10)) (some (.str [48 + i.toNat]))) none
section
variable(P:Pg)
noncomputable def FA(h:Hp)(a:aa)(n:Sx):Option aa:=
 a.Li (λc fs=>uO ((P.fields c).contains n) (bZ fs n)) <|
 a.FY (λid=>FZ (d0 h.D id) (λc did=>uO ((P.fields c).contains n) (DK (d0 h.D did) (λkvs=>bZ kvs n) none)) none) none
noncomputable def mY(a:aa)(n:Sx)(v:aa):HM aa:=rQ a λo=>FZ o (λc did=>gd ((P.fields c).contains n) (rQ (.af did) λo=>DK o (λkvs=>sm kvs.length (vo λh=>h.put (.af did) (.ns (sset kvs n v)))) no)) no
noncomputable def zS(a:aa)(n:Sx):Option Nat:=a.Li (λc fs=>oS (bZ fs n) (λ_=>none) (P.mB c n)) none
noncomputable def isRef(x:aa):Bool:=match x with
 | .bw _ _=>true
 | .af _=>true
 | _=>false
noncomputable def fZ(kvs:List (Sx×aa))(k:Sx):HM (List (Sx×aa)):=
 oS (bZ kvs k) (λx=>bif isRef x then rQ x λo=>oS o (λo=>oS o.frozen (λv h=>some (sset kvs k v,h.del x)) no) no else aj kvs) no
noncomputable def d5(kvs:List (Sx×aa)):List Sx->HM (List (Sx×aa))
 | []=>aj kvs
 | k::ks=>aL (fZ kvs k) λkvs=>d5 kvs ks
noncomputable def te(x:aa)(m:HM α):HM α:=λh=>m (h.del x)
noncomputable def yH(v:aa)(ks:List Sx):HM aa:=
 v.FY (λid=>rQ v λo=>oL o (λxs=>te v (aj (.list xs))) <| ie o (λkvs=>te v (aL (d5 kvs ks) λkvs=>aj (.sd kvs))) <| oF o (λkvs=>te v (aj (.eg kvs))) <|
  FZ o (λc did=>rQ (.af did) λo=>DK o (λkvs=>te v (te (.af did) (aj (.inst c kvs)))) no) no) <|
 gd (gj v&& !isRef v) (aj v)
noncomputable def dy(f:aa->HM (Option aa)):List aa->HM (List aa)
 | []=>aj []
 | x::xs=>aL (f x) λr=>aL (dy f xs) λys=>aj (oS r (λy=>y::ys) ys)
noncomputable abbrev jj:=Nat->List aa->HM aa
variable(C:jj)
noncomputable def dY(x:aa):HM Bool:=lO λh=>truth h x
noncomputable def SQ(c f:Nat)(xs:List aa):HM aa:=λh=>aL (C f (.af (h.n + 1)::xs)) (λr=>r.vp (aj (.af (h.n + 1))) no) {h with D:=(h.n + 1,.inst c h.n)::(h.n,.ns [])::h.D,n:=h.n + 2}
mutual
noncomputable def ev:ME->Env->HM aa
 | .c v,_=>aj v
 | .gc _ v,_=>aj v
 | .v i,env=>hY env[i]? λv=>gd (gj v) (aj v)
 | .add m a b,env=>aL (ev a env) λx=>aL (ev b env) λy=>Cd m x y
 | .sub a b,env=>aL (ev a env) λx=>aL (ev b env) λy=>hY (arith (λx y=>some (x - y)) x y) aj
 | .mod a b,env=>aL (ev a env) λx=>aL (ev b env) λy=>hY (arith eZ x y) aj
 | .fdiv a b,env=>aL (ev a env) λx=>aL (ev b env) λy=>hY (arith E6 x y) aj
 | .band a b,env=>aL (ev a env) λx=>aL (ev b env) λy=>hY (arith Nu x y) aj
 | .neg a,env=>aL (ev a env) λx=>x.gu (λi=>aj (.int (-i))) no
 | .not a,env=>aL (ev a env) λx=>aL (dY x) λb=>aj (.bool (!b))
 | .and es,env=>ch false es env
 | .or es,env=>ch true es env
 | .ite c a b,env=>aL (ev c env) λx=>aL (dY x) λq=>gJ q (ev a env) (ev b env)
 | .cmp o a b,env=>aL (ev a env) λx=>aL (ev b env) λy=>aL (lO λh=>ck h o x y) λb=>aj (.bool b)
 | .BP o p a b c,env=>aL (ev a env) λx=>aL (ev b env) λy=>aL (lO λh=>ck h o x y) λq=>gJ q (aL (ev c env) λz=>aL (lO λh=>ck h p y z) λb=>aj (.bool b)) (aj (.bool false))
 | .attr a n,env=>aL (ev a env) λx=>lO λh=>FA P h x n
 | .item a i,env=>aL (ev a env) λx=>aL (ev i env) λy=>lO λh=>aY h x y
 | .slice a lo hi,env=>aL (ev a env) λx=>aL (Qy lo env) λl=>aL (Qy hi env) λr=>lO λh=>eK h x l r
 | .tup es,env=>aL (xu es env) λxs=>aj (.tup xs)
 | .list m es,env=>aL (xu es env) λxs=>ju m (.list xs)
 | .fN m ks es,env=>aL (xu es env) λxs=>gd (Nat.beq ks.length xs.length) (ju m (.sd ((ks.zip xs).foldl (λd p=>sset d p.1 p.2) [])))
 | .lX m ks es,env=>aL (xu es env) λxs=>gd (Nat.beq ks.length xs.length) (ju m (.eg ((ks.zip xs).foldl (λd p=>kJ d p.1 p.2) [])))
 | .comp m t it test elt,env=>aL (ev it env) λv=>hY (itemsOf v) λxs=>sm xs.length (aL (dy (λx=>hY (gq env t x) λenv'=>aL (MB test env') λq=>gJ q (aL (ev elt env') λy=>aj (some y)) (aj none)) xs) λys=>ju m (.list ys))
 | .call f es,env=>aL (xu es env) λxs=>C f xs
 | .new c es,env=>aL (xu es env) λxs=>hY (P.init c) λf=>SQ C c f xs
 | .mB o n es,env=>aL (ev o env) λx=>hY (zS P x n) λf=>aL (xu es env) λxs=>C f (x::xs)
 | .gW a,env=>aL (ev a env) λx=>x.gu (λn=>gd (decide (-1048576 < n/\n < 1048576)) (aj (.rT 0 n.toNat))) no
 | .qr a b,env=>aL (ev a env) λx=>x.gu (λm=>aL (ev b env) λy=>y.gu (λn=>gd (decide (-1048576 < n/\n < 1048576/\ -1048576 < m/\m < 1048576)) (aj (.rT m (n - m).toNat))) no) no
 | .max2 a b,env=>aL (ev a env) λx=>aL (ev b env) λy=>hY (arith (λx y=>some (if x < y then y else x)) x y) aj
 | .b1 o a,env=>aL (ev a env) λx=>lO λh=>tw h o x
 | .append a x,env=>aL (ev a env) λl=>aL (lO λh=>some (fF h l)) λb=>gd b (aL (ev x env) λy=>cz l y)
 | .pop a,env=>aL (ev a env) λl=>DA l
 | .Dx a k d,env=>aL (ev a env) λl=>aL (lO λh=>some (gI h l)) λb=>gd b (aL (ev k env) λz=>z.iH (λs=>aL (ev d env) λy=>vR l s y) no)
 | .extend a b,env=>aL (ev a env) λl=>aL (lO λh=>some (fF h l)) λq=>gd q (aL (ev b env) λy=>y.pQ (λys=>lx l ys) no)
 | .get a k d,env=>aL (ev a env) λx=>aL (lO λh=>some (gI h x)) λq=>gd q (aL (ev k env) λy=>aL (ev d env) λz=>lO λh=>yF h x y z)
 | .split a b,env=>aL (ev a env) λx=>x.iH (λs=>aL (ev b env) λy=>y.iH (λt=>hY (one? t) λc=>sm s.length (aj (.list ((cN c s).map .str)))) no) no
 | .starts a b,env=>aL (ev a env) λx=>x.iH (λs=>aL (ev b env) λy=>y.iH (λt=>aj (.bool (cv t s))) no) no
 | .join a b,env=>aL (ev a env) λx=>x.iH (λs=>aL (ev b env) λy=>lO λh=>s8 h s y) no
noncomputable def Qy:Option ME->Env->HM aa
 | none,_=>aj .none
 | some e,env=>ev e env
noncomputable def xu:List ME->Env->HM (List aa)
 | [],_=>aj []
 | e::es,env=>aL (ev e env) λx=>aL (xu es env) λxs=>aj (x::xs)
noncomputable def ch(stop:Bool):List ME->Env->HM aa
 | [],_=>no
 | e::es,env=>match es with
  | []=>ev e env
  | _::_=>aL (ev e env) λv=>aL (dY v) λb=>bif b==stop then aj v else ch stop es env
noncomputable def MB:Option ME->Env->HM Bool
 | none,_=>aj true
 | some e,env=>aL (ev e env) λx=>dY x
end
noncomputable abbrev FE:=Fl×Env
noncomputable def vw(m:HM FE)(k:Env->HM FE):HM FE:=aL m λp=>match p.1 with
 | .next=>k p.2
 | .cont=>k p.2
 | .brk=>aj (.next,p.2)
 | .ret v=>aj (.ret v,p.2)
noncomputable def Kh(t:Env->HM Bool)(b:Env->HM FE):Nat->Env->HM FE
 | 0,_=>no
 | n + 1,env=>aL (t env) λq=>gJ q (vw (b env) (Kh t b n)) (aj (.next,env))
noncomputable def mO(t:ji)(b:Env->HM FE):List aa->Env->HM FE
 | [],env=>aj (.next,env)
 | x::xs,env=>hY (gq env t x) λenv=>vw (b env) (mO t b xs)
mutual
noncomputable def exec:MS->Env->HM FE
 | .asg t e,env=>aL (ev P C e env) λx=>match t with
  | .v i=>aj (.next,env.set i x)
  | .tup is=>hY (gq env (.tup is) x) λenv=>aj (.next,env)
  | .item a k=>aL (ev P C a env) λo=>aL (ev P C k env) λi=>aL (de o i x) λ_=>aj (.next,env)
  | .attr a n=>aL (ev P C a env) λo=>aL (mY P o n x) λ_=>aj (.next,env)
 | .aug a k e,env=>aL (ev P C a env) λo=>aL (ev P C k env) λi=>aL (lO λh=>aY h o i) λz=>z.gu (λold=>aL (ev P C e env) λx=>x.gu (λx=>aL (de o i (.int (old + x))) λ_=>aj (.next,env)) no) no
 | .ex e,env=>aL (ev P C e env) λ_=>aj (.next,env)
 | .ret e,env=>aL (ev P C e env) λx=>aj (.ret x,env)
 | .gs e ks,env=>aL (ev P C e env) λx=>aL (yH x ks) λx=>aj (.ret x,env)
 | .Dq,env=>aj (.ret .none,env)
 | .bx c th el,env=>aL (ev P C c env) λx=>aL (dY x) λq=>gJ q (execs th env) (execs el env)
 | .wh c b,env=>Kh (λenv=>aL (ev P C c env) dY) (λenv=>execs b env) LF env
 | .fr t it b,env=>aL (ev P C it env) λv=>hY (itemsOf v) λxs=>mO t (λenv=>execs b env) xs env
 | .Im t it b,env=>aL (ev P C it env) λv=>v.pQ (λxs=>mO t (λenv=>execs b env) xs.reverse env) no
 | .cont,env=>aj (.cont,env)
 | .brk,env=>aj (.brk,env)
 | .kP i ks,env=>hY env[i]? λv=>aL (yH v ks) λx=>aj (.next,env.set i x)
 | .fj i k,env=>hY env[i]? λv=>rQ v λo=>ie o (λkvs=>aL (fZ kvs k) λkvs=>rQ v λo=>ie o (λ_ h=>some ((.next,env),h.put v (.sd kvs))) no) no
 | .nW i,env=>hY env[i]? λv=>v.FY (λ_=>te v (aj (.next,env))) (aj (.next,env))
noncomputable def execs:List MS->Env->HM FE
 | [],env=>aj (.next,env)
 | s::r,env=>aL (exec s env) λp=>match p.1 with
  | .next=>execs r p.2
  | _=>aj p
end
end
noncomputable def Qv(p:FE):HM aa:=match p.1 with
 | .ret v=>aj v
 | .next=>aj .none
 | _=>no
noncomputable def aM(P:Pg):Nat->jj
 | 0=>λ_ _=>no
 | d + 1=>λf args=>hY (P.fns f) λfn=>gd (Nat.beq args.length fn.np) (aL (execs P (aM P d) fn.body (args++List.replicate (fn.nv - fn.np) .undef)) Qv)
noncomputable def az:Sx:=[107,105,110,100]
noncomputable def fE:Sx:=[97]
noncomputable def aB:Sx:=[107,105,100,115]
noncomputable def fW:Sx:=[102,108,97,103,115]
noncomputable def Bq:Sx:=[97,116]
noncomputable def bj:Sx:=[110,105,100]
noncomputable def ur:Sx:=[115,101,108,102]
noncomputable def au:Sx:=[110,111,100,101]
noncomputable def yq:Sx:=[102,108,97,103]
noncomputable def bu:Sx:=[75,95,80,65,82,69,78]
noncomputable def mJ:Sx:=[75,95,83,84,82]
noncomputable def mK:Sx:=[75,95,78,85,77]
noncomputable def qR:Sx:=[75,95,84,80,76]
noncomputable def bp:Sx:=[75,95,77,69,77,66,69,82]
noncomputable def iz:Sx:=[75,95,84,72,73,83]
noncomputable def gY:Sx:=[116,104,105,115]
noncomputable def cD:Sx:=[75,95,78,65,77,69]
noncomputable def uA:Sx:=[75,95,83,72,79,82,84]
noncomputable def bO:Sx:=[]
noncomputable def Th:Sx:=[115]
noncomputable def cc:Sx:=[117,115,101]
noncomputable def Jz:Sx:=[115,105,100]
noncomputable def bA:Sx:=[75,95,78,79,78,78,85,76,76]
noncomputable def cy:Sx:=[75,95,67,72,65,73,78]
noncomputable def bC:Sx:=[75,95,73,78,68,69,88]
noncomputable def gx:Sx:=[46]
noncomputable def LV:Sx:=[116,97,105,108]
noncomputable def cP:Sx:=[110,97,109,101]
noncomputable def L2:Sx:=[104,101,97,100]
noncomputable def cG:Sx:=[75,95,65,83,83,73,71,78]
noncomputable def du:Sx:=[61]
noncomputable def dw:Sx:=[38,38,61]
noncomputable def dq:Sx:=[124,124,61]
noncomputable def dr:Sx:=[63,63,61]
noncomputable def kF:Sx:=[75,95,66,73,78,68]
noncomputable def Br:Sx:=[75,95,65,83]
noncomputable def oR:Sx:=[75,95,83,65,84,73,83,70,73,69,83]
noncomputable def eV:Sx:=[75,95,79,66,74,80,65,84]
noncomputable def fX:Sx:=[75,95,65,82,82,80,65,84]
noncomputable def sY:Sx:=[112,97,116,116,101,114,110]
noncomputable def Eg:Sx:=[111,117,116]
noncomputable def eY:Sx:=[115,116,97,99,107]
noncomputable def pq:Sx:=[107,105,100]
noncomputable def yv:Sx:=[75,95,86,65,82]
noncomputable def pn:Sx:=[116,97,98]
noncomputable def jA:Sx:=[103,105,118,101,110]
noncomputable def mF:Sx:=[115,117,114,101]
noncomputable def mI:Sx:=[108,111,115,116]
noncomputable def eI:Sx:=[107,101,121]
noncomputable def wq:Sx:=[116,97,114,103,101,116]
noncomputable def dO:Sx:=[104,105,100,100,101,110]
noncomputable def LY:Sx:=[112,97,116,104]
noncomputable def fg:Sx:=[75,95,67,65,76,76]
noncomputable def g9:Sx:=[75,95,78,69,87]
noncomputable def iy:Sx:=[97,115,107,101,114]
noncomputable def kA:Sx:=[99,97,108,108,101,101]
noncomputable def pv:Sx:=[76,95,67,65,83,69]
noncomputable def HI:Sx:=[101,120,116,114,97]
noncomputable def Ej:Sx:=[104,105,103,104]
noncomputable def HL:Sx:=[99,97,115,101,115]
noncomputable def zY:Sx:=[116,101,115,116,115]
noncomputable def lV:Sx:=[75,95,66,73,78,65,82,89]
noncomputable def dE:Sx:=[75,95,85,78,65,82,89]
noncomputable def Bm:Sx:=[116,104,114,111,117,103,104]
noncomputable def dQ:Sx:=[75,95,85,80,68,65,84,69]
noncomputable def sZ:Sx:=[69,70,70,69,67,84,83]
noncomputable def gh:Sx:=[75,95,70,85,78,67]
noncomputable def sX:Sx:=[119,97,105,116,105,110,103]
noncomputable def Jy:Sx:=[116,111,112]
noncomputable def eU:Sx:=[75,95,83,80,82,69,65,68]
noncomputable def kG:Sx:=[70,95,82,69,83,84]
noncomputable def yo:Sx:=[114,101,115,116]
noncomputable def cj:Sx:=[70,95,79,80,84,67,72,65,73,78]
noncomputable def Bo:Sx:=[111,112,101,114,97,110,100]
noncomputable def gb:Sx:=[100,101,108,101,116,101]
noncomputable def kz:Sx:=[111,119,110,115]
noncomputable def iw:Sx:=[107,105,108,108,115]
noncomputable def gH:Sx:=[75,95,67,76,65,83,83]
noncomputable def kB:Sx:=[99,97,108,108]
noncomputable def uv:Sx:=[112,108,97,99,101]
noncomputable def yr:Sx:=[97,114,103,115]
noncomputable def JC:Sx:=[97,114,103]
noncomputable def yp:Sx:=[111,112,101,114,97,110,100,115]
noncomputable def ux:Sx:=[110,101,120,116]
noncomputable def ky:Sx:=[119]
noncomputable def c5:Sx:=[114,101,102]
noncomputable def bg:Sx:=[116,101,115,116,101,100]
noncomputable def bK:Sx:=[115,112,105,110,101]
noncomputable def cw:Sx:=[104,111,108,100,115]
noncomputable def dm:Sx:=[104,111,108,100,101,114]
noncomputable def dh:Sx:=[111,98,106,101,99,116]
noncomputable def bS:Sx:=[111,112,101,110]
noncomputable def eM:Sx:=[100,101,101,112]
noncomputable def aq:Sx:=[100,101,101,100,115]
noncomputable def aG:Sx:=[115,101,116,115]
noncomputable def jb:Sx:=[105,116]
noncomputable def lH:Sx:=[95,108,97,119,95,112,97,115,115,101,100]
noncomputable def uo:Sx:=[119,111,114,100]
noncomputable def Hv:Sx:=[120]
noncomputable def NU:Sx:=[121]
noncomputable def Tj:Sx:=[102]
noncomputable def LU:Sx:=[116,101,120,116]
noncomputable def UP:Sx:=[103]
noncomputable def JA:Sx:=[113]
noncomputable def uq:Sx:=[115,111,114,116]
noncomputable def ou:Sx:=[98]
noncomputable def iv:Sx:=[114,101,97,100,115]
noncomputable def PT:Sx:=[119,97,121]
noncomputable def z0:Sx:=[105,110,100,101,120]
noncomputable def kC:Sx:=[75,95,76,73,83,84]
noncomputable def lb:Sx:=[99,97,108,108,115]
noncomputable def PY:Sx:=[110,101,119]
noncomputable def zZ:Sx:=[112,97,114,116,115]
noncomputable def HD:Sx:=[110,111,100,101,115]
noncomputable def Eh:Sx:=[109,111,114,101]
noncomputable def LZ:Sx:=[112,97,114,116]
noncomputable def jy:Sx:=[115,49]
noncomputable def mG:Sx:=[115,50]
noncomputable def L5:Sx:=[102,105,116,115]
noncomputable def ja:Sx:=[119,114,105,116,101,115]
noncomputable def nO:Sx:=[115,112,111,116,115]
noncomputable def oQ:Sx:=[95,108,97,119,95,111,112,115]
noncomputable def cI:Sx:=[43,61]
noncomputable def qO:Sx:=[111,119,110]
noncomputable def PU:Sx:=[116,111]
noncomputable def Hx:Sx:=[118,97,108,117,101]
noncomputable def L3:Sx:=[102,111,114,109]
noncomputable def Ti:Sx:=[111,112]
noncomputable def Ei:Sx:=[108,101,102,116]
noncomputable def HF:Sx:=[109,97,114,107,115]
noncomputable def HN:Sx:=[98,105,110,100,115]
noncomputable def yu:Sx:=[33]
noncomputable def qM:Sx:=[116,121,112,101,111,102]
noncomputable def Em:Sx:=[45]
noncomputable def yl:Sx:=[115,105,103,110]
noncomputable def uD:Sx:=[70,95,65,82,82,79,87]
noncomputable def pG:Sx:=[70,95,69,88,80,82,66,79,68,89]
noncomputable def uB:Sx:=[75,95,70,73,69,76,68]
noncomputable def jW:Sx:=[107]
noncomputable def L0:Sx:=[110,111,110,101]
noncomputable def HH:Sx:=[102,105,101,108,100]
noncomputable def yn:Sx:=[114,111,119,115]
noncomputable def g7:Sx:=[43,43]
noncomputable def g6:Sx:=[45,45]
noncomputable def jC:Sx:=[75,95,76,79,71,73,67]
noncomputable def pw:Sx:=[75,95,80,73,67,75]
noncomputable def g5:Sx:=[61,61,61]
noncomputable def yt:Sx:=[43]
noncomputable def jB:Sx:=[38,38]
noncomputable def fb:Sx:=[124,124]
noncomputable def gZ:Sx:=[63,63]
noncomputable def JB:Sx:=[104,111,119]
noncomputable def HJ:Sx:=[99,111,117,110,116]
noncomputable def uu:Sx:=[114,111,108,108]
noncomputable def qP:Sx:=[110,117,109,115]
noncomputable def jz:Sx:=[114,111,111,116,115]
noncomputable def mH:Sx:=[111]
noncomputable def oP:Sx:=[111,98,106,115]
noncomputable def pj:Sx:=[117]
noncomputable def yk:Sx:=[118]
noncomputable def gw:Sx:=[100,111,110,101]
noncomputable def gg:Sx:=[98,108,97,109,101,100]
noncomputable def qQ:Sx:=[100,101,101,100]
noncomputable def P4:Sx:=[98,111,120]
noncomputable def Ek:Sx:=[98,101,102,111,114,101]
noncomputable def cH:Sx:=[95,108,97,119,95,115,116,117,102,102]
noncomputable def F8:Sx:=[110]
noncomputable def V7:Sx:=[114]
noncomputable def d9:Sx:=[111,102,102]
noncomputable def wu:Sx:=[109,101,116]
noncomputable def gv:Sx:=[114,101,97,100]
noncomputable def qN:Sx:=[115,112,111,116]
noncomputable def gC:Sx:=[115,101,116]
noncomputable def El:Sx:=[98,97,115,101]
noncomputable def Hy:Sx:=[116,114,117,116,104]
noncomputable def LX:Sx:=[115,101,97,116]
noncomputable def HA:Sx:=[112,105,101,99,101]
noncomputable def Hz:Sx:=[114,105,103,104,116]
noncomputable def PX:Sx:=[111,108,100]
noncomputable def HK:Sx:=[99,104,97,105,110]
noncomputable def HC:Sx:=[111,116,104,101,114]
noncomputable def HB:Sx:=[112,97,116,104,115]
noncomputable def HP:Sx:=[97,108,105,107,101]
noncomputable def wx:Sx:=[76,95,84,82,85,69]
noncomputable def uy:Sx:=[76,95,70,65,76,83,69]
noncomputable def z4:Sx:=[102,105,114,115,116]
noncomputable def LW:Sx:=[115,101,101,110]
noncomputable def L1:Sx:=[108,97,115,116]
noncomputable def HE:Sx:=[110,97,109,101,115]
noncomputable def rX:Sx:=[97,110,121,95,110,97,109,101]
noncomputable def P2:Sx:=[99,117,116]
noncomputable def LS:Sx:=[116,111,108,100]
noncomputable def PW:Sx:=[111,110,101]
noncomputable def P1:Sx:=[100,117,101]
noncomputable def wy:Sx:=[75,95,67,65,83,69]
noncomputable def rY:Sx:=[75,95,83,87,73,84,67,72]
noncomputable def UN:Sx:=[104]
noncomputable def Bp:Sx:=[100,101,102,97,117,108,116]
noncomputable def Bn:Sx:=[115,117,98,106,101,99,116]
noncomputable def HG:Sx:=[108,97,115,116,115]
noncomputable def PZ:Sx:=[108,111,119]
noncomputable def HO:Sx:=[97,115,107,101,100]
noncomputable def P0:Sx:=[104,105,116]
noncomputable def L6:Sx:=[99,111,109,101]
noncomputable def PV:Sx:=[114,111,119]
noncomputable def nP:Sx:=[95,108,97,119,95,107,101,121,115]
noncomputable def ym:Sx:=[115,51]
noncomputable def Ef:Sx:=[115,99,114,105,112,116]
namespace F
@[reducible] noncomputable def tD:Nat:=0
@[reducible] noncomputable def has:Nat:=1
@[reducible] noncomputable def bare:Nat:=2
@[reducible] noncomputable def we:Nat:=3
@[reducible] noncomputable def f9:Nat:=4
@[reducible] noncomputable def vL:Nat:=5
@[reducible] noncomputable def mZ:Nat:=6
@[reducible] noncomputable def jl:Nat:=7
@[reducible] noncomputable def gX:Nat:=8
@[reducible] noncomputable def jm:Nat:=9
@[reducible] noncomputable def j0:Nat:=10
@[reducible] noncomputable def rN:Nat:=11
@[reducible] noncomputable def jL:Nat:=12
@[reducible] noncomputable def iD:Nat:=13
@[reducible] noncomputable def By:Nat:=14
@[reducible] noncomputable def mC:Nat:=15
@[reducible] noncomputable def o5:Nat:=16
@[reducible] noncomputable def jk:Nat:=17
@[reducible] noncomputable def oy:Nat:=18
@[reducible] noncomputable def rp:Nat:=19
@[reducible] noncomputable def gF:Nat:=20
@[reducible] noncomputable def inner:Nat:=21
@[reducible] noncomputable def jE:Nat:=22
@[reducible] noncomputable def gm:Nat:=23
@[reducible] noncomputable def kS:Nat:=24
@[reducible] noncomputable def pd:Nat:=25
@[reducible] noncomputable def gG:Nat:=26
@[reducible] noncomputable def iL:Nat:=27
@[reducible] noncomputable def oz:Nat:=28
@[reducible] noncomputable def Bj:Nat:=29
@[reducible] noncomputable def aX:Nat:=30
@[reducible] noncomputable def b0:Nat:=31
@[reducible] noncomputable def kh:Nat:=32
@[reducible] noncomputable def fx:Nat:=33
@[reducible] noncomputable def iZ:Nat:=34
@[reducible] noncomputable def qG:Nat:=35
@[reducible] noncomputable def iY:Nat:=36
@[reducible] noncomputable def wk:Nat:=37
@[reducible] noncomputable def qH:Nat:=38
@[reducible] noncomputable def km:Nat:=39
@[reducible] noncomputable def mD:Nat:=40
@[reducible] noncomputable def ip:Nat:=41
@[reducible] noncomputable def nF:Nat:=42
@[reducible] noncomputable def qJ:Nat:=43
@[reducible] noncomputable def sU:Nat:=44
@[reducible] noncomputable def qC:Nat:=45
@[reducible] noncomputable def qI:Nat:=46
@[reducible] noncomputable def qE:Nat:=47
@[reducible] noncomputable def qF:Nat:=48
@[reducible] noncomputable def oN:Nat:=49
@[reducible] noncomputable def nH:Nat:=50
@[reducible] noncomputable def fR:Nat:=51
@[reducible] noncomputable def fy:Nat:=52
@[reducible] noncomputable def iW:Nat:=53
@[reducible] noncomputable def qK:Nat:=54
@[reducible] noncomputable def iX:Nat:=55
@[reducible] noncomputable def iV:Nat:=56
@[reducible] noncomputable def eB:Nat:=57
@[reducible] noncomputable def qD:Nat:=58
@[reducible] noncomputable def sV:Nat:=59
@[reducible] noncomputable def mE:Nat:=60
@[reducible] noncomputable def iI:Nat:=61
@[reducible] noncomputable def fS:Nat:=62
@[reducible] noncomputable def fB:Nat:=63
@[reducible] noncomputable def kj:Nat:=64
@[reducible] noncomputable def gP:Nat:=65
@[reducible] noncomputable def ki:Nat:=66
@[reducible] noncomputable def lT:Nat:=67
@[reducible] noncomputable def jS:Nat:=68
@[reducible] noncomputable def iq:Nat:=69
@[reducible] noncomputable def PH:Nat:=70
end F
noncomputable def xe:List MS:=
 [.asg (.attr (.v 0) az) (.v 1),
 .asg (.attr (.v 0) fE) (.v 2),
 .asg (.attr (.v 0) aB) (.v 3),
 .asg (.attr (.v 0) fW) (.v 4),
 .asg (.attr (.v 0) Bq) (.v 5),
 .asg (.attr (.v 0) bj) (.c (.int 0))]
noncomputable def Q3:List MS:=
 [.ret (.cmp .ne (.band (.attr (.v 0) fW) (.v 1)) (.c (.int 0)))]
noncomputable def Fw:List MS:=
 [.wh (.cmp .eq (.attr (.v 0) az) (.gc bu (.int 33)))
  [.asg (.v 0) (.item (.attr (.v 0) aB) (.c (.int 0)))],
 .ret (.v 0)]
noncomputable def si:List MS:=
 [.asg (.v 0) (.call F.bare [(.v 0)]),
 .bx (.cmp .eq (.attr (.v 0) az) (.gc mJ (.int 2)))
  [.ret (.attr (.v 0) fE)]
  [],
 .bx (.cmp .eq (.attr (.v 0) az) (.gc mK (.int 1)))
  [.ret (.b1 .str (.attr (.v 0) fE))]
  [],
 .bx (.and [(.cmp .eq (.attr (.v 0) az) (.gc qR (.int 3))),(.not (.attr (.v 0) aB))])
  [.ret (.item (.attr (.v 0) fE) (.c (.int 0)))]
  [],
 .ret (.c .none)]
noncomputable def sh:List MS:=
 [.bx (.cmp .eq (.attr (.v 0) az) (.gc bp (.int 16)))
  [.ret (.attr (.v 0) fE)]
  [],
 .ret (.call F.we [(.item (.attr (.v 0) aB) (.c (.int 1)))])]
noncomputable def yW:List MS:=
 [.bx (.cmp .eq (.attr (.v 0) az) (.gc iz (.int 9)))
  [.ret (.c (.str gY))]
  [],
 .bx (.and [(.cmp .ne (.attr (.v 0) az) (.gc cD (.int 8))),(.cmp .ne (.attr (.v 0) az) (.gc uA (.int 14)))])
  [.ret (.c (.str bO))]
  [],
 .asg (.v 2) (.get (.v 1) (.attr (.v 0) bj) (.c (.int 0))),
 .bx (.cmp .eq (.v 2) (.c (.int 0)))
  [.ret (.c (.str bO))]
  [],
 .ret (.add .f (.c (.str Th)) (.b1 .str (.v 2)))]
noncomputable def tu:List MS:=
 [.asg (.v 2) (.c (.str bO)),
 .wh (.c (.bool true))
  [.bx (.cmp .in (.attr (.v 0) az) (.tup [(.gc bu (.int 33)),(.gc bA (.int 32)),(.gc cy (.int 20))]))
   [.asg (.v 0) (.item (.attr (.v 0) aB) (.c (.int 0)))]
   [.bx (.cmp .in (.attr (.v 0) az) (.tup [(.gc bp (.int 16)),(.gc bC (.int 17))]))
    [.asg (.v 3) (.call F.f9 [(.v 0)]),
    .bx (.or [(.cmp .is (.v 3) (.c .none)),(.cmp .in (.c (.str gx)) (.v 3))])
     [.ret (.c (.str bO))]
     [],
    .asg (.v 2) (.add .f (.add .f (.c (.str gx)) (.v 3)) (.v 2)),
    .asg (.v 0) (.item (.attr (.v 0) aB) (.c (.int 0)))]
    [.brk]]],
 .asg (.v 4) (.call F.vL [(.v 0),(.v 1)]),
 .bx (.cmp .eq (.v 4) (.c (.str bO)))
  [.ret (.c (.str bO))]
  [],
 .ret (.add .f (.v 4) (.v 2))]
noncomputable def n9:List MS:=
 [.wh (.c (.bool true))
  [.bx (.cmp .in (.attr (.v 0) az) (.tup [(.gc bu (.int 33)),(.gc bA (.int 32)),(.gc cy (.int 20))]))
   [.asg (.v 0) (.item (.attr (.v 0) aB) (.c (.int 0)))]
   [.bx (.and [(.cmp .eq (.attr (.v 0) az) (.gc cG (.int 25))),(.cmp .in (.attr (.v 0) fE) (.tup [(.c (.str du)),(.c (.str dw)),(.c (.str dq)),(.c (.str dr))]))])
    [.asg (.v 0) (.item (.attr (.v 0) aB) (.c (.int 0)))]
    [.ret (.call F.mZ [(.v 0),(.v 1)])]]]]
noncomputable def jh:List MS:=
 [.asg (.v 1) (.list .d []),
 .asg (.v 2) (.list .d [(.v 0)]),
 .wh (.v 2)
  [.asg (.v 3) (.pop (.v 2)),
  .bx (.cmp .in (.attr (.v 3) az) (.tup [(.gc kF (.int 36)),(.gc bu (.int 33)),(.gc bA (.int 32)),(.gc cy (.int 20)),(.gc Br (.int 29)),(.gc oR (.int 31))]))
   [.ex (.append (.v 2) (.item (.attr (.v 3) aB) (.c (.int 0))))]
   [.bx (.cmp .in (.attr (.v 3) az) (.tup [(.gc eV (.int 34)),(.gc fX (.int 35))]))
    [.Im (.v 4) (.attr (.v 3) aB)
     [.bx (.cmp .fh (.v 4) (.c .none))
      [.ex (.append (.v 2) (.v 4))]
      []]]
    [.ex (.append (.v 1) (.v 3))]]],
 .kP 1 [],
 .nW 2,
 .ret (.v 1)]
noncomputable def rC:List MS:=
 [.bx (.cmp .eq (.attr (.v 0) az) (.gc yv (.int 41)))
  [.ret (.call F.gX [(.item (.attr (.item (.attr (.v 0) aB) (.c (.int 0))) aB) (.c (.int 0)))])]
  [],
 .ret (.call F.gX [(.item (.attr (.v 0) aB) (.c (.int 0)))])]
noncomputable def r7:List MS:=
 [.ret (.comp .f (.v 2) (.call F.jm [(.v 0)]) none (.call F.mZ [(.v 2),(.v 1)]))]
noncomputable def vc:List MS:=
 [.asg (.attr (.v 0) pn) (.v 1),
 .asg (.attr (.v 0) cc) (.v 2),
 .asg (.attr (.v 0) jA) (.fN .f [] []),
 .asg (.attr (.v 0) mF) (.c (.int 0)),
 .asg (.attr (.v 0) mI) (.c (.int 0))]
noncomputable def vb:List MS:=
 [.ret (.cmp .in (.v 2) (.call F.j0 [(.v 1),(.attr (.v 0) cc)]))]
noncomputable def lZ:List MS:=
 [.fr (.v 3) (.call F.j0 [(.v 1),(.attr (.v 0) cc)])
  [.bx (.and [(.cmp .ne (.v 3) (.c (.str bO))),(.starts (.v 2) (.add .f (.v 3) (.c (.str gx))))])
   [.ret (.c (.bool true))]
   []],
 .ret (.c (.bool false))]
noncomputable def xb:List MS:=
 [.bx (.not (.v 0))
  [.ret (.c (.bool false))]
  [],
 .asg (.v 2) (.call F.f9 [(.v 1)]),
 .ret (.or [(.cmp .is (.v 2) (.c .none)),(.cmp .in (.v 2) (.v 0))])]
noncomputable def oa:List MS:=
 [.asg (.v 2) (.slice (.split (.v 1) (.c (.str gx))) (some (.c (.int 1))) none),
 .fr (.v 3) (.call F.jm [(.v 0)])
  [.bx (.and [(.v 2),(.cmp .in (.attr (.v 3) az) (.tup [(.gc bp (.int 16)),(.gc bC (.int 17))]))])
   [.asg (.v 4) (.call F.f9 [(.v 3)]),
   .bx (.or [(.cmp .is (.v 4) (.c .none)),(.cmp .in (.v 4) (.v 2))])
    [.ret (.c (.bool true))]
    []]
   []],
 .ret (.c (.bool false))]
noncomputable def xc:List MS:=
 [.bx (.cmp .nr (.attr (.v 1) az) (.tup [(.gc fg (.int 18)),(.gc g9 (.int 19))]))
  [.ret (.c (.bool true))]
  [],
 .asg (.v 2) (.call F.bare [(.item (.attr (.v 1) aB) (.c (.int 0)))]),
 .ret (.or [(.cmp .ne (.attr (.v 2) az) (.gc cD (.int 8))),(.cmp .ne (.get (.attr (.v 0) cc) (.attr (.v 2) bj) (.c (.int 0))) (.c (.int 0)))])]
noncomputable def rB:List MS:=
 [.bx (.cmp .ne (.v 0) (.gc pv (.int 8)))
  [.ret (.list .f [(.v 1)])]
  [],
 .asg (.v 3) (.item (.v 2) (.c (.int 1))),
 .asg (.v 4) (.slice (.attr (.v 1) aB) (some (.add .f (.item (.v 2) (.c (.int 0))) (.c (.int 1)))) (some (.add .f (.item (.v 2) (.c (.int 1))) (.c (.int 1))))),
 .bx (.or [(.not (.v 4)),(.b1 .any (.comp .f (.v 6) (.v 4) none (.cmp .is (.item (.attr (.v 6) aB) (.c (.int 0))) (.c .none))))])
  [.asg (.v 3) (.sub (.b1 .len (.attr (.v 1) aB)) (.c (.int 1)))]
  [],
 .asg (.v 5) (.comp .f (.v 7) (.slice (.attr (.v 1) aB) (some (.c (.int 1))) (some (.add .f (.v 3) (.c (.int 1))))) none (.item (.attr (.v 7) aB) (.c (.int 0)))),
 .ret (.add .f (.list .f [(.item (.attr (.v 1) aB) (.c (.int 0)))]) (.comp .f (.v 8) (.v 5) (some (.cmp .fh (.v 8) (.c .none))) (.v 8)))]
noncomputable def pC:List MS:=
 [.wh (.c (.bool true))
  [.bx (.cmp .eq (.attr (.v 0) az) (.gc cG (.int 25)))
   [.ret (.v 0)]
   [],
  .asg (.v 1) (.tup [(.gc bu (.int 33)),(.gc cy (.int 20)),(.gc bA (.int 32)),(.gc bp (.int 16)),(.gc lV (.int 23)),(.gc dE (.int 21))]),
  .bx (.cmp .nr (.attr (.v 0) az) (.v 1))
   [.ret (.c .none)]
   [],
  .asg (.v 0) (.item (.attr (.v 0) aB) (.c (.int 0)))]]
noncomputable def rH:List MS:=
 [.asg (.v 1) (.list .d []),
 .asg (.v 2) (.list .d [(.v 0)]),
 .wh (.v 2)
  [.asg (.v 3) (.pop (.v 2)),
  .bx (.or [(.cmp .in (.attr (.v 3) az) (.tup [(.gc cG (.int 25)),(.gc dQ (.int 22)),(.gc dE (.int 21))])),(.cmp .in (.attr (.v 3) az) (.gc sZ (.tup [(.int 18),(.int 19),(.int 16),(.int 17),(.int 34),(.int 35),(.int 15)])))])
   [.ex (.append (.v 1) (.v 3))]
   [],
  .bx (.cmp .ne (.attr (.v 3) az) (.gc gh (.int 27)))
   [.ex (.extend (.v 2) (.comp .f (.v 4) (.attr (.v 3) aB) (some (.cmp .fh (.v 4) (.c .none))) (.v 4)))]
   []],
 .kP 1 [],
 .nW 2,
 .ret (.v 1)]
noncomputable def rD:List MS:=
 [.bx (.cmp .eq (.attr (.v 1) az) (.gc eU (.int 15)))
  [.ret (.cmp .gt (.b1 .len (.v 0)) (.c (.int 0)))]
  [],
 .bx (.cmp .eq (.attr (.v 1) az) (.gc eV (.int 34)))
  [.asg (.v 2) (.b1 .any (.comp .f (.v 3) (.attr (.v 1) aB) none (.call F.has [(.v 3),(.gc kG (.int 8192))]))),
  .ret (.or [(.and [(.v 2),(.cmp .gt (.b1 .len (.v 0)) (.c (.int 0)))]),(.b1 .any (.comp .f (.v 4) (.attr (.v 1) aB) none (.cmp .in (.attr (.v 4) fE) (.v 0))))])]
  [],
 .ret (.and [(.cmp .ne (.attr (.v 1) az) (.gc fX (.int 35))),(.call F.By [(.v 0),(.v 1)])])]
noncomputable def Av:List MS:=
 [.wh (.cmp .in (.attr (.v 0) az) (.tup [(.gc bu (.int 33)),(.gc cy (.int 20)),(.gc bA (.int 32))]))
  [.asg (.v 0) (.item (.attr (.v 0) aB) (.c (.int 0)))],
 .ret (.v 0)]
noncomputable def u9:List MS:=
 [.asg (.v 0) (.call F.inner [(.v 0)]),
 .bx (.and [(.cmp .ne (.attr (.v 0) az) (.gc bp (.int 16))),(.cmp .ne (.attr (.v 0) az) (.gc bC (.int 17)))])
  [.ret (.tup [(.c (.str bO)),(.c (.str bO))])]
  [],
 .asg (.v 2) (.call F.f9 [(.v 0)]),
 .bx (.cmp .is (.v 2) (.c .none))
  [.ret (.tup [(.c (.str bO)),(.c (.str bO))])]
  [],
 .ret (.tup [(.call F.jl [(.item (.attr (.v 0) aB) (.c (.int 0))),(.v 1)]),(.v 2)])]
noncomputable def lY:List MS:=
 [.asg (.v 0) (.call F.inner [(.v 0)]),
 .wh (.cmp .in (.attr (.v 0) az) (.tup [(.gc bp (.int 16)),(.gc bC (.int 17)),(.gc fg (.int 18))]))
  [.bx (.and [(.call F.has [(.v 0),(.gc cj (.int 1))]),(.cmp .eq (.call F.jl [(.item (.attr (.v 0) aB) (.c (.int 0))),(.v 2)]) (.v 1))])
   [.ret (.c (.bool true))]
   [],
  .asg (.v 0) (.call F.inner [(.item (.attr (.v 0) aB) (.c (.int 0)))])],
 .ret (.c (.bool false))]
noncomputable def ze:List MS:=
 [.bx (.cmp .eq (.call F.jl [(.v 1),(.attr (.v 0) cc)]) (.v 2))
  [.ret (.c (.bool true))]
  [],
 .ret (.or [(.cmp .eq (.item (.call F.jE [(.v 1),(.attr (.v 0) cc)]) (.c (.int 0))) (.v 2)),(.call F.gm [(.v 1),(.v 2),(.attr (.v 0) cc)])])]
noncomputable def iM:List MS:=
 [.asg (.v 3) (.list .d [(.v 1)]),
 .wh (.v 3)
  [.asg (.v 4) (.pop (.v 3)),
  .bx (.or [(.cmp .in (.attr (.v 4) az) (.tup [(.gc cG (.int 25)),(.gc dQ (.int 22))])),(.and [(.cmp .eq (.attr (.v 4) az) (.gc dE (.int 21))),(.cmp .eq (.attr (.v 4) fE) (.c (.str gb)))])])
   [.bx (.or [(.mB (.v 0) kz [(.v 4),(.v 2)]),(.mB (.v 0) iw [(.v 4),(.v 2)])])
    [.nW 3,
    .ret (.c (.bool true))]
    []]
   [],
  .bx (.and [(.cmp .ne (.attr (.v 4) az) (.gc gh (.int 27))),(.cmp .ne (.attr (.v 4) az) (.gc gH (.int 61)))])
   [.ex (.extend (.v 3) (.comp .f (.v 5) (.attr (.v 4) aB) (some (.cmp .fh (.v 5) (.c .none))) (.v 5)))]
   []],
 .nW 3,
 .ret (.c (.bool false))]
noncomputable def rE:List MS:=
 [.bx (.cmp .eq (.v 1) (.neg (.c (.int 1))))
  [.asg (.v 2) (.call F.inner [(.item (.attr (.v 0) aB) (.c (.int 0)))]),
  .ret (.ite (.cmp .in (.attr (.v 2) az) (.tup [(.gc bp (.int 16)),(.gc bC (.int 17))])) (.item (.attr (.v 2) aB) (.c (.int 0))) (.c .none))]
  [],
 .asg (.v 3) (.attr (.item (.attr (.v 0) aB) (.c (.int 1))) aB),
 .fr (.v 4) (.slice (.v 3) none (some (.add .f (.v 1) (.c (.int 1)))))
  [.bx (.cmp .eq (.attr (.v 4) az) (.gc eU (.int 15)))
   [.ret (.c .none)]
   []],
 .ret (.ite (.cmp .lt (.v 1) (.b1 .len (.v 3))) (.item (.v 3) (.v 1)) (.c .none))]
noncomputable def pK:List MS:=
 [.asg (.v 3) (.comp .d (.v 4) (.attr (.item (.attr (.v 1) aB) (.c (.int 1))) aB) none (.v 4)),
 .ex (.append (.v 3) (.call F.gG [(.v 1),(.neg (.c (.int 1)))])),
 .kP 3 [],
 .ret (.b1 .any (.comp .f (.v 5) (.v 3) none (.and [(.cmp .fh (.v 5) (.c .none)),(.call F.kS [(.v 0),(.v 5),(.v 2)])])))]
noncomputable def pD:List MS:=
 [.wh (.cmp .in (.attr (.v 0) az) (.tup [(.gc fg (.int 18)),(.gc bp (.int 16)),(.gc bC (.int 17)),(.gc bA (.int 32)),(.gc bu (.int 33))]))
  [.bx (.call F.has [(.v 0),(.gc cj (.int 1))])
   [.ret (.c (.bool true))]
   [],
  .asg (.v 0) (.item (.attr (.v 0) aB) (.c (.int 0)))],
 .ret (.c (.bool false))]
noncomputable def w9:List MS:=
 [.ret (.tup [(.gc cD (.int 8)),(.gc iz (.int 9)),(.gc bp (.int 16)),(.gc bC (.int 17)),(.gc fg (.int 18)),(.gc g9 (.int 19)),(.gc bA (.int 32)),(.gc bu (.int 33))])]
noncomputable def y7:List MS:=
 [.asg (.v 5) (.new 0 [(.v 1),(.v 2),(.v 3),(.v 4),(.c (.int 0))]),
 .aug (.v 0) (.c (.str ux)) (.c (.int 1)),
 .asg (.attr (.v 5) bj) (.item (.v 0) (.c (.str ux))),
 .kP 5 [],
 .ret (.v 5)]
noncomputable def rF:List MS:=
 [.asg (.v 2) (.fN .d [au,c5,bg,bK,cw,dm,dh,cP] [(.v 0),(.c .none),(.c .none),(.c (.int 0)),(.list .f []),(.tup [(.c (.str bO)),(.c (.str bO))]),(.c .none),(.c (.str bO))]),
 .asg (.item (.v 2) (.c (.str bS))) (.c (.bool false)),
 .asg (.item (.v 2) (.c (.str eM))) (.c (.int 1)),
 .asg (.item (.v 2) (.c (.str aq))) (.list .d []),
 .asg (.item (.v 2) (.c (.str aG))) (.list .d []),
 .fr (.v 3) (.v 1)
  [.asg (.item (.v 2) (.c (.str eM))) (.max2 (.item (.v 2) (.c (.str eM))) (.add .f (.item (.v 3) (.c (.str eM))) (.c (.int 1)))),
  .fj 2 aq,
  .asg (.item (.v 2) (.c (.str aq))) (.add .d (.item (.v 2) (.c (.str aq))) (.item (.v 3) (.c (.str aq)))),
  .fj 2 aG,
  .asg (.item (.v 2) (.c (.str aG))) (.add .d (.item (.v 2) (.c (.str aG))) (.item (.v 3) (.c (.str aG))))],
 .ret (.v 2)]
noncomputable def y0:List MS:=
 [.asg (.v 3) (.call F.b0 [(.call F.aX [(.v 0),(.v 1),(.c (.str bO)),(.list .f [(.item (.v 2) (.c (.str au)))]),(.c (.int 0))]),(.list .f [(.v 2)])]),
 .fr (.v 4) (.gc lH (.tup [(.str c5),(.str bg),(.str bK),(.str cw),(.str dm),(.str dh),(.str cP)]))
  [.asg (.item (.v 3) (.v 4)) (.item (.v 2) (.v 4))],
 .ret (.v 3)]
noncomputable def yZ:List MS:=
 [.gs (.ite (.item (.v 1) (.c (.str bS))) (.call F.kh [(.v 0),(.gc cy (.int 20)),(.v 1)]) (.v 1)) [aq,aG]]
noncomputable def zb:List MS:=
 [.gs (.ite (.cmp .in (.attr (.item (.v 1) (.c (.str au))) az) (.call F.Bj [])) (.v 1) (.call F.kh [(.v 0),(.gc bu (.int 33)),(.v 1)])) [aq,aG]]
noncomputable def y5:List MS:=
 [.ret (.call F.fx [(.v 0),(.call F.iZ [(.v 0),(.v 1)])])]
noncomputable def y8:List MS:=
 [.asg (.v 2) (.call F.aX [(.v 0),(.gc cD (.int 8)),(.v 1),(.list .f []),(.c (.int 0))]),
 .asg (.v 3) (.call F.b0 [(.v 2),(.list .f [])]),
 .asg (.v 4) (.get (.fN .f [Hv,NU,Tj] [(.c (.int 1)),(.c (.int 2)),(.c (.int 3))]) (.v 1) (.c (.int 0))),
 .bx (.cmp .gt (.v 4) (.c (.int 0)))
  [.asg (.item (.item (.v 0) (.c (.str cc))) (.attr (.v 2) bj)) (.v 4),
  .asg (.item (.v 3) (.c (.str c5))) (.tup [(.add .f (.c (.str Th)) (.b1 .str (.v 4)))]),
  .asg (.item (.v 3) (.c (.str bg))) (.item (.v 3) (.c (.str c5)))]
  [],
 .gs (.v 3) [aq,aG]]
noncomputable def y9:List MS:=
 [.asg (.v 2) (.mod (.v 1) (.c (.int 8))),
 .bx (.cmp .eq (.v 2) (.c (.int 2)))
  [.asg (.v 3) (.call F.b0 [(.call F.aX [(.v 0),(.gc iz (.int 9)),(.c (.str bO)),(.list .f []),(.c (.int 0))]),(.list .f [])]),
  .asg (.item (.v 3) (.c (.str c5))) (.tup [(.c (.str gY))]),
  .asg (.item (.v 3) (.c (.str bg))) (.item (.v 3) (.c (.str c5))),
  .gs (.v 3) [aq,aG]]
  [],
 .bx (.cmp .in (.v 2) (.tup [(.c (.int 5)),(.c (.int 6))]))
  [.gs (.call F.b0 [(.call F.aX [(.v 0),(.gc mK (.int 1)),(.sub (.v 2) (.c (.int 5))),(.list .f []),(.c (.int 0))]),(.list .f [])]) [aq,aG]]
  [],
 .gs (.call F.iY [(.v 0),(.item (.tup [(.c (.str NU)),(.c (.str Hv)),(.c (.str bO)),(.c (.str Tj)),(.c (.str UP)),(.c (.str bO)),(.c (.str bO)),(.c (.str NU))]) (.v 2))]) [aq,aG]]
noncomputable def u5:List MS:=
 [.asg (.v 2) (.call F.iZ [(.v 0),(.v 2)]),
 .asg (.v 3) (.item (.tup [(.c (.str fE)),(.c (.str ou))]) (.mod (.v 1) (.c (.int 2)))),
 .asg (.v 4) (.ite (.cmp .eq (.mod (.fdiv (.v 1) (.c (.int 2))) (.c (.int 3))) (.c (.int 1))) (.gc cj (.int 1)) (.c (.int 0))),
 .asg (.v 5) (.mod (.fdiv (.v 1) (.c (.int 6))) (.c (.int 6))),
 .bx (.cmp .lt (.v 5) (.c (.int 3)))
  [.asg (.v 6) (.call F.aX [(.v 0),(.gc bp (.int 16)),(.v 3),(.list .f [(.item (.v 2) (.c (.str au)))]),(.v 4)])]
  [.bx (.cmp .eq (.v 5) (.c (.int 5)))
   [.asg (.v 6) (.call F.aX [(.v 0),(.gc bC (.int 17)),(.c (.str bO)),(.list .f [(.item (.v 2) (.c (.str au))),(.item (.call F.iY [(.v 0),(.c (.str NU))]) (.c (.str au)))]),(.v 4)]),
   .asg (.v 3) (.c .none)]
   [.asg (.v 7) (.ite (.cmp .eq (.v 5) (.c (.int 3))) (.call F.aX [(.v 0),(.gc mJ (.int 2)),(.v 3),(.list .f []),(.c (.int 0))]) (.call F.aX [(.v 0),(.gc qR (.int 3)),(.tup [(.v 3)]),(.list .f []),(.c (.int 0))])),
   .asg (.v 6) (.call F.aX [(.v 0),(.gc bC (.int 17)),(.c (.str bO)),(.list .f [(.item (.v 2) (.c (.str au))),(.v 7)]),(.v 4)])]],
 .asg (.v 8) (.call F.b0 [(.v 6),(.list .f [(.v 2)])]),
 .bx (.cmp .fh (.v 3) (.c .none))
  [.asg (.item (.v 8) (.c (.str c5))) (.ite (.cmp .is (.item (.v 2) (.c (.str c5))) (.c .none)) (.c .none) (.add .f (.item (.v 2) (.c (.str c5))) (.tup [(.v 3)]))),
  .asg (.item (.v 8) (.c (.str bg))) (.item (.v 8) (.c (.str c5))),
  .asg (.item (.v 8) (.c (.str dm))) (.tup [(.ite (.cmp .is (.item (.v 2) (.c (.str bg))) (.c .none)) (.c (.str bO)) (.join (.c (.str gx)) (.item (.v 2) (.c (.str bg))))),(.v 3)])]
  [],
 .asg (.item (.v 8) (.c (.str bK))) (.ite (.cmp .lt (.v 5) (.c (.int 3))) (.item (.v 2) (.c (.str bK))) (.c (.int 0))),
 .asg (.item (.v 8) (.c (.str cw))) (.add .f (.ite (.cmp .gt (.v 4) (.c (.int 0))) (.list .f [(.tup [(.item (.v 2) (.c (.str bg))),(.attr (.item (.v 2) (.c (.str au))) bj)])]) (.list .f [])) (.item (.v 2) (.c (.str cw)))),
 .asg (.item (.v 8) (.c (.str dh))) (.v 2),
 .asg (.item (.v 8) (.c (.str cP))) (.v 3),
 .asg (.item (.v 8) (.c (.str bS))) (.or [(.item (.v 2) (.c (.str bS))),(.cmp .gt (.v 4) (.c (.int 0)))]),
 .ex (.append (.item (.v 8) (.c (.str aq))) (.v 6)),
 .ex (.append (.item (.v 0) (.c (.str iv))) (.tup [(.v 6),(.list .f [(.v 3)]),(.c (.bool false))])),
 .gs (.v 8) [aq,aG]]
noncomputable def rG:List MS:=
 [.asg (.v 4) (.call F.iZ [(.v 0),(.item (.v 3) (.neg (.c (.int 1))))]),
 .bx (.v 2)
  [.asg (.v 4) (.call F.fx [(.v 0),(.v 4)])]
  [],
 .asg (.v 5) (.list .d [(.v 4)]),
 .asg (.v 6) (.list .d []),
 .asg (.v 7) (.list .d []),
 .asg (.v 8) (.list .d []),
 .fr (.v 9) (.slice (.v 3) none (some (.neg (.c (.int 1)))))
  [.asg (.v 10) (.call F.fx [(.v 0),(.v 9)]),
  .ex (.append (.v 5) (.v 10)),
  .bx (.cmp .eq (.add .f (.b1 .len (.v 6)) (.c (.int 1))) (.mod (.fdiv (.v 1) (.c (.int 3))) (.c (.int 3))))
   [.ex (.append (.v 8) (.call F.aX [(.v 0),(.gc eU (.int 15)),(.c (.str bO)),(.list .f [(.item (.v 10) (.c (.str au)))]),(.c (.int 0))])),
   .ex (.append (.item (.v 0) (.c (.str iv))) (.tup [(.item (.v 8) (.c (.int 0))),(.list .f [(.c .none)]),(.c (.bool false))])),
   .ex (.append (.v 7) (.item (.v 8) (.c (.int 0)))),
   .ex (.append (.v 6) (.c .none))]
   [.ex (.append (.v 7) (.item (.v 10) (.c (.str au)))),
   .ex (.append (.v 6) (.v 10))]],
 .asg (.v 11) (.ite (.and [(.not (.v 2)),(.cmp .eq (.mod (.fdiv (.v 1) (.c (.int 9))) (.c (.int 4))) (.c (.int 1)))]) (.gc cj (.int 1)) (.c (.int 0))),
 .kP 7 [],
 .asg (.v 12) (.call F.aX [(.v 0),(.gc kC (.int 71)),(.c (.str bO)),(.v 7),(.c (.int 0))]),
 .asg (.v 13) (.call F.aX [(.v 0),(.ite (.v 2) (.gc g9 (.int 19)) (.gc fg (.int 18))),(.c (.str bO)),(.list .f [(.item (.v 4) (.c (.str au))),(.v 12),(.c .none)]),(.v 11)]),
 .kP 5 [],
 .asg (.v 14) (.call F.b0 [(.v 13),(.v 5)]),
 .fj 14 aq,
 .kP 8 [],
 .asg (.item (.v 14) (.c (.str aq))) (.add .f (.add .f (.item (.v 14) (.c (.str aq))) (.v 8)) (.list .f [(.v 13)])),
 .bx (.not (.v 2))
  [.asg (.item (.v 14) (.c (.str cw))) (.add .f (.ite (.cmp .gt (.v 11) (.c (.int 0))) (.list .f [(.tup [(.item (.v 4) (.c (.str bg))),(.attr (.item (.v 4) (.c (.str au))) bj)])]) (.list .f [])) (.item (.v 4) (.c (.str cw)))),
  .asg (.item (.v 14) (.c (.str bS))) (.or [(.item (.v 4) (.c (.str bS))),(.cmp .gt (.v 11) (.c (.int 0)))])]
  [],
 .kP 6 [],
 .ex (.append (.item (.v 0) (.c (.str lb))) (.tup [(.v 13),(.v 6),(.v 4),(.item (.v 14) (.c (.str bS)))])),
 .gs (.v 14) [aq,aG]]
noncomputable def u0:List MS:=
 [.asg (.v 2) (.or [(.and [(.cmp .in (.attr (.item (.v 1) (.c (.str au))) az) (.tup [(.gc bp (.int 16)),(.gc bC (.int 17))])),(.not (.item (.v 1) (.c (.str bS))))]),(.cmp .in (.item (.v 1) (.c (.str c5))) (.tup [(.tup [(.c (.str jy))]),(.tup [(.c (.str mG))])]))]),
 .ret (.ite (.and [(.v 2),(.cmp .in (.attr (.item (.v 1) (.c (.str au))) az) (.tup [(.gc cD (.int 8)),(.gc bp (.int 16)),(.gc bC (.int 17))]))]) (.v 1) (.call F.iY [(.v 0),(.c (.str Hv))]))]
noncomputable def sj:List MS:=
 [.ret (.tup [(.item (.v 0) (.c (.str c5))),(.ite (.cmp .eq (.attr (.item (.v 0) (.c (.str au))) az) (.gc cD (.int 8))) (.c (.str bO)) (.item (.v 0) (.c (.str cP))))])]
noncomputable def B5:List MS:=
 [.ex (.append (.item (.v 1) (.c (.str aq))) (.item (.v 1) (.c (.str au)))),
 .ex (.append (.item (.v 1) (.c (.str aG))) (.tup [(.item (.v 1) (.c (.str au))),(.v 2)])),
 .ex (.append (.item (.v 0) (.c (.str ja))) (.tup [(.item (.v 1) (.c (.str au))),(.v 2)])),
 .ret (.v 1)]
noncomputable def u6:List MS:=
 [.asg (.v 3) (.call F.mD [(.v 0),(.item (.v 2) (.c (.int 0)))]),
 .asg (.v 4) (.call F.fx [(.v 0),(.item (.v 2) (.c (.int 1)))]),
 .asg (.v 5) (.mod (.v 1) (.c (.int 7))),
 .asg (.v 6) (.ite (.cmp .lt (.v 5) (.c (.int 4))) (.item (.gc oQ (.tup [(.str du),(.str cI),(.str dw),(.str dq),(.str dr),(.str du),(.str du)])) (.mod (.fdiv (.v 1) (.c (.int 7))) (.c (.int 7)))) (.c (.str du))),
 .asg (.v 7) (.list .d [(.call F.ip [(.v 3)])]),
 .asg (.v 8) (.item (.v 3) (.c (.str au))),
 .asg (.v 9) (.list .f []),
 .bx (.cmp .gt (.v 5) (.c (.int 3)))
  [.asg (.v 10) (.list .d [(.call F.aX [(.v 0),(.gc kF (.int 36)),(.ite (.cmp .eq (.v 5) (.c (.int 6))) (.c (.str bO)) (.item (.tup [(.c (.str fE)),(.c (.str ou))]) (.mod (.v 5) (.c (.int 2))))),(.list .f [(.v 8),(.c .none)]),(.c (.int 0))])]),
  .bx (.cmp .eq (.v 5) (.c (.int 5)))
   [.asg (.v 11) (.call F.iY [(.v 0),(.c (.str Hv))]),
   .ex (.append (.v 7) (.call F.ip [(.v 11)])),
   .ex (.append (.v 10) (.call F.aX [(.v 0),(.gc kF (.int 36)),(.c (.str bO)),(.list .f [(.item (.v 11) (.c (.str au))),(.c .none)]),(.gc kG (.int 8192))]))]
   [],
  .kP 10 [],
  .asg (.v 8) (.call F.aX [(.v 0),(.ite (.cmp .eq (.v 5) (.c (.int 6))) (.gc fX (.int 35)) (.gc eV (.int 34))),(.c (.str bO)),(.ite (.cmp .eq (.v 5) (.c (.int 6))) (.add .f (.list .f [(.c .none)]) (.v 10)) (.v 10)),(.c (.int 0))]),
  .ex (.append (.item (.v 0) (.c (.str iv))) (.tup [(.v 8),(.ite (.cmp .eq (.v 5) (.c (.int 6))) (.list .f []) (.list .f [(.attr (.item (.v 10) (.c (.int 0))) fE)])),(.cmp .eq (.v 5) (.c (.int 5)))])),
  .asg (.v 9) (.list .f [(.v 8)])]
  [],
 .asg (.v 12) (.call F.b0 [(.call F.aX [(.v 0),(.gc cG (.int 25)),(.v 6),(.list .f [(.v 8),(.item (.v 4) (.c (.str au)))]),(.c (.int 0))]),(.list .f [(.v 3),(.v 4)])]),
 .fj 12 aq,
 .asg (.item (.v 12) (.c (.str aq))) (.add .d (.item (.v 12) (.c (.str aq))) (.v 9)),
 .bx (.and [(.cmp .lt (.v 5) (.c (.int 4))),(.cmp .ne (.v 6) (.c (.str cI)))])
  [.asg (.item (.v 12) (.c (.str bg))) (.item (.v 3) (.c (.str c5)))]
  [],
 .asg (.item (.v 12) (.c (.str bK))) (.attr (.item (.v 12) (.c (.str au))) bj),
 .kP 7 [],
 .ex (.call F.nF [(.v 0),(.v 12),(.v 7)]),
 .kP 12 [aq,aG],
 .asg (.item (.item (.v 0) (.c (.str qO))) (.attr (.item (.v 12) (.c (.str au))) bj)) (.comp .f (.v 13) (.item (.v 12) (.c (.str aq))) none (.attr (.v 13) bj)),
 .ret (.v 12)]
noncomputable def w6:List MS:=
 [.asg (.v 2) (.call F.qG [(.v 0),(.v 2)]),
 .asg (.v 3) (.item (.tup [(.c (.str gb)),(.c (.str yu)),(.c (.str qM)),(.c (.str Em)),(.c (.str gb))]) (.mod (.v 1) (.c (.int 5)))),
 .bx (.and [(.cmp .eq (.v 3) (.c (.str gb))),(.cmp .is (.item (.v 2) (.c (.str dh))) (.c .none))])
  [.asg (.v 3) (.c (.str qM))]
  [],
 .asg (.v 4) (.call F.b0 [(.call F.aX [(.v 0),(.gc dE (.int 21)),(.v 3),(.list .f [(.item (.v 2) (.c (.str au)))]),(.c (.int 0))]),(.list .f [(.v 2)])]),
 .asg (.item (.v 4) (.c (.str bK))) (.item (.v 2) (.c (.str bK))),
 .bx (.cmp .eq (.v 3) (.c (.str gb)))
  [.gs (.call F.nF [(.v 0),(.v 4),(.list .f [(.tup [(.item (.v 2) (.c (.str c5))),(.item (.v 2) (.c (.str cP)))])])]) [aq,aG]]
  [],
 .ex (.append (.item (.v 4) (.c (.str aq))) (.item (.v 4) (.c (.str au)))),
 .gs (.v 4) [aq,aG]]
noncomputable def uZ:List MS:=
 [.asg (.v 2) (.call F.fx [(.v 0),(.v 2)]),
 .asg (.v 3) (.call F.aX [(.v 0),(.gc kC (.int 71)),(.c (.str bO)),(.list .f []),(.c (.int 0))]),
 .bx (.cmp .lt (.mod (.v 1) (.c (.int 3))) (.c (.int 2)))
  [.asg (.v 4) (.call F.b0 [(.call F.aX [(.v 0),(.gc gh (.int 27)),(.c (.str bO)),(.list .f [(.c .none),(.v 3),(.c .none),(.item (.v 2) (.c (.str au)))]),(.add .f (.gc uD (.int 4)) (.gc pG (.int 8)))]),(.list .f [(.v 2)])]),
  .fj 4 aq,
  .asg (.item (.v 4) (.c (.str aq))) (.list .f [])]
  [.asg (.v 5) (.call F.aX [(.v 0),(.gc uB (.int 62)),(.c (.str jW)),(.list .f [(.c .none),(.item (.v 2) (.c (.str au)))]),(.c (.int 0))]),
  .asg (.v 6) (.call F.aX [(.v 0),(.gc kC (.int 71)),(.c (.str bO)),(.list .f [(.v 5)]),(.c (.int 0))]),
  .asg (.v 4) (.call F.b0 [(.call F.aX [(.v 0),(.gc gH (.int 61)),(.c (.str bO)),(.list .f [(.c .none),(.c .none),(.c .none),(.v 3),(.v 6)]),(.c (.int 0))]),(.list .f [(.v 2)])])],
 .fj 4 aG,
 .asg (.item (.v 4) (.c (.str aG))) (.list .f []),
 .gs (.v 4) [aq,aG]]
noncomputable def za:List MS:=
 [.bx (.or [(.cmp .eq (.v 1) (.c (.int 2))),(.cmp .eq (.v 1) (.c (.int 3)))])
  [.gs (.call F.qH [(.v 0),(.v 2),(.item (.v 3) (.c (.int 0)))]) [aq,aG]]
  [],
 .bx (.or [(.cmp .eq (.v 1) (.c (.int 4))),(.cmp .eq (.v 1) (.c (.int 15)))])
  [.gs (.call F.km [(.v 0),(.v 2),(.cmp .eq (.v 1) (.c (.int 15))),(.v 3)]) [aq,aG]]
  [],
 .bx (.or [(.cmp .eq (.v 1) (.c (.int 5))),(.cmp .eq (.v 1) (.c (.int 6)))])
  [.gs (.call F.qJ [(.v 0),(.v 2),(.v 3)]) [aq,aG]]
  [],
 .bx (.cmp .eq (.v 1) (.c (.int 7)))
  [.asg (.v 4) (.call F.mD [(.v 0),(.item (.v 3) (.c (.int 0)))]),
  .asg (.v 5) (.call F.b0 [(.call F.aX [(.v 0),(.gc dQ (.int 22)),(.item (.tup [(.c (.str g7)),(.c (.str g6))]) (.mod (.v 2) (.c (.int 2)))),(.list .f [(.item (.v 4) (.c (.str au)))]),(.c (.int 0))]),(.list .f [(.v 4)])]),
  .gs (.call F.nF [(.v 0),(.v 5),(.list .f [(.call F.ip [(.v 4)])])]) [aq,aG]]
  [],
 .bx (.cmp .eq (.v 1) (.c (.int 8)))
  [.gs (.call F.sU [(.v 0),(.v 2),(.item (.v 3) (.c (.int 0)))]) [aq,aG]]
  [],
 .bx (.cmp .eq (.v 1) (.c (.int 12)))
  [.gs (.call F.kh [(.v 0),(.gc bu (.int 33)),(.call F.fx [(.v 0),(.item (.v 3) (.c (.int 0)))])]) [aq,aG]]
  [],
 .bx (.cmp .eq (.v 1) (.c (.int 13)))
  [.asg (.v 6) (.call F.iZ [(.v 0),(.item (.v 3) (.c (.int 0)))]),
  .asg (.v 5) (.call F.kh [(.v 0),(.gc bA (.int 32)),(.v 6)]),
  .asg (.item (.v 5) (.c (.str bS))) (.item (.v 6) (.c (.str bS))),
  .gs (.v 5) [aq,aG]]
  [],
 .bx (.cmp .eq (.v 1) (.c (.int 14)))
  [.gs (.call F.qC [(.v 0),(.v 2),(.item (.v 3) (.c (.int 0)))]) [aq,aG]]
  [],
 .asg (.v 7) (.comp .f (.v 10) (.v 3) none (.call F.qG [(.v 0),(.v 10)])),
 .asg (.v 8) (.item (.lX .f [9,10,11] [(.gc lV (.int 23)),(.gc jC (.int 24)),(.gc pw (.int 26))]) (.v 1)),
 .asg (.v 9) (.item (.lX .f [9,10,11] [(.item (.tup [(.c (.str g5)),(.c (.str yt))]) (.mod (.v 2) (.c (.int 2)))),(.item (.tup [(.c (.str jB)),(.c (.str fb)),(.c (.str gZ))]) (.mod (.v 2) (.c (.int 3)))),(.c (.str bO))]) (.v 1)),
 .asg (.v 5) (.call F.b0 [(.call F.aX [(.v 0),(.v 8),(.v 9),(.comp .f (.v 11) (.v 7) none (.item (.v 11) (.c (.str au)))),(.c (.int 0))]),(.v 7)]),
 .asg (.item (.v 5) (.c (.str bK))) (.ite (.cmp .eq (.v 1) (.c (.int 9))) (.item (.item (.v 7) (.c (.int 0))) (.c (.str bK))) (.c (.int 0))),
 .gs (.v 5) [aq,aG]]
noncomputable def yX:List MS:=
 [.asg (.v 2) (.mod (.v 1) (.c (.int 16))),
 .asg (.v 3) (.fdiv (.v 1) (.c (.int 16))),
 .asg (.v 4) (.item (.v 0) (.c (.str eY))),
 .asg (.v 5) (.get (.lX .f [4,15,5,6,9,10,11] [(.add .f (.c (.int 1)) (.mod (.v 3) (.c (.int 3)))),(.add .f (.c (.int 1)) (.mod (.v 3) (.c (.int 2)))),(.c (.int 2)),(.c (.int 2)),(.c (.int 2)),(.c (.int 2)),(.c (.int 3))]) (.v 2) (.c (.int 1))),
 .asg (.v 6) (.slice (.v 4) (some (.neg (.v 5))) none),
 .bx (.or [(.cmp .lt (.v 2) (.c (.int 2))),(.cmp .lt (.b1 .len (.v 6)) (.v 5)),(.cmp .gt (.b1 .max (.comp .f (.v 7) (.v 6) none (.item (.v 7) (.c (.str eM))))) (.c (.int 6)))])
  [.asg (.item (.v 0) (.c (.str eY))) (.slice (.add .f (.v 4) (.list .f [(.ite (.cmp .eq (.v 2) (.c (.int 0))) (.call F.iY [(.v 0),(.c (.str Hv))]) (.call F.wk [(.v 0),(.v 3)]))])) (some (.neg (.c (.int 4)))) none)]
  [.asg (.item (.v 0) (.c (.str eY))) (.add .f (.slice (.v 4) none (some (.neg (.v 5)))) (.list .f [(.call F.qI [(.v 0),(.v 2),(.v 3),(.v 6)])]))]]
noncomputable def y1:List MS:=
 [.aug (.v 0) (.c (.str uu)) (.c (.int 1)),
 .ret (.fdiv (.item (.item (.v 0) (.c (.str qP))) (.mod (.item (.v 0) (.c (.str uu))) (.b1 .len (.item (.v 0) (.c (.str qP)))))) (.c (.int 16)))]
noncomputable def fk:List MS:=
 [.asg (.v 1) (.list .d [(.item (.item (.v 0) (.c (.str jz))) (.item (.item (.v 0) (.c (.str eI))) (.c (.int 0))))]),
 .fr (.v 2) (.slice (.item (.v 0) (.c (.str eI))) (some (.c (.int 1))) none)
  [.asg (.v 3) (.item (.v 1) (.neg (.c (.int 1)))),
  .ex (.append (.v 1) (.ite (.cmp .eq (.item (.v 3) (.c (.int 0))) (.c (.str mH))) (.get (.item (.item (.v 0) (.c (.str oP))) (.item (.v 3) (.c (.int 1)))) (.v 2) (.tup [(.c (.str pj)),(.c (.int 0))])) (.tup [(.c (.str pj)),(.c (.int 0))])))],
 .gs (.v 1) [aq,aG]]
noncomputable def B6:List MS:=
 [.asg (.v 6) (.call F.oN [(.v 0)]),
 .bx (.cmp .is (.v 5) (.c .none))
  [.ex (.Dx (.v 3) (.v 4) (.c .none))]
  [.asg (.item (.v 3) (.v 4)) (.ite (.cmp .eq (.item (.v 5) (.c (.int 0))) (.c (.str pj))) (.tup [(.c (.str pj)),(.c (.int 0))]) (.v 5))],
 .ex (.append (.item (.v 0) (.c (.str gw))) (.attr (.v 1) bj)),
 .bx (.cmp .ne (.call F.oN [(.v 0)]) (.v 6))
  [.ex (.append (.item (.v 0) (.c (.str gg))) (.tup [(.v 1),(.v 2)]))]
  []]
noncomputable def u4:List MS:=
 [.asg (.v 3) (.call F.qF [(.v 0)]),
 .asg (.v 4) (.item (.gc cH (.tup [(.tup [(.str mH),(.int 0)]),(.tup [(.str mH),(.int 1)]),(.tup [(.str mH),(.int 2)]),(.tup [(.str F8),(.int 0)]),(.tup [(.str pj),(.int 0)]),(.tup [(.str jW),(.int 0)]),(.tup [(.str jW),(.int 1)])])) (.mod (.fdiv (.v 3) (.c (.int 6))) (.c (.int 7)))),
 .bx (.cmp .lt (.mod (.v 3) (.c (.int 6))) (.c (.int 2)))
  [.ex (.call F.nH [(.v 0),(.v 1),(.v 2),(.item (.v 0) (.c (.str jz))),(.item (.tup [(.c (.str jy)),(.c (.str mG))]) (.mod (.v 3) (.c (.int 6)))),(.v 4)])]
  [.ex (.call F.nH [(.v 0),(.v 1),(.v 2),(.item (.item (.v 0) (.c (.str oP))) (.mod (.mod (.v 3) (.c (.int 6))) (.c (.int 3)))),(.item (.tup [(.c (.str fE)),(.c (.str ou))]) (.mod (.mod (.v 3) (.c (.int 6))) (.c (.int 2)))),(.v 4)])]]
noncomputable def y6:List MS:=
 [.ret (.cmp .in (.item (.v 0) (.c (.int 0))) (.tup [(.c (.str pj)),(.c (.str F8))]))]
noncomputable def yY:List MS:=
 [.wh (.or [(.cmp .eq (.attr (.v 1) az) (.gc bu (.int 33))),(.cmp .eq (.attr (.v 1) az) (.gc bA (.int 32)))])
  [.asg (.v 1) (.item (.attr (.v 1) aB) (.c (.int 0)))],
 .bx (.cmp .eq (.attr (.v 1) az) (.gc cD (.int 8)))
  [.ret (.tup [(.v 1),(.c .none),(.add .f (.c (.str Th)) (.b1 .str (.get (.item (.v 0) (.c (.str cc))) (.attr (.v 1) bj) (.c (.int 0)))))])]
  [],
 .asg (.v 2) (.call F.fB [(.v 0),(.item (.attr (.v 1) aB) (.c (.int 0)))]),
 .ex (.call F.qK [(.v 0),(.v 1),(.v 2)]),
 .asg (.v 3) (.attr (.v 1) fE),
 .bx (.cmp .eq (.attr (.v 1) az) (.gc bC (.int 17)))
  [.asg (.v 4) (.item (.attr (.v 1) aB) (.c (.int 1))),
  .bx (.cmp .eq (.attr (.v 4) az) (.gc cD (.int 8)))
   [.asg (.v 3) (.item (.tup [(.c (.str fE)),(.c (.str ou))]) (.mod (.item (.call F.fB [(.v 0),(.v 4)]) (.c (.int 1))) (.c (.int 2))))]
   [.asg (.v 3) (.ite (.cmp .eq (.attr (.v 4) az) (.gc mJ (.int 2))) (.attr (.v 4) fE) (.item (.attr (.v 4) fE) (.c (.int 0))))]]
  [],
 .ret (.tup [(.v 1),(.v 2),(.v 3)])]
noncomputable def zd:List MS:=
 [.bx (.and [(.cmp .eq (.item (.v 0) (.c (.str d9))) (.c (.int 0))),(.cmp .gt (.band (.attr (.v 1) fW) (.gc cj (.int 1))) (.c (.int 0)))])
  [.asg (.item (.item (.v 0) (.c (.str wu))) (.attr (.item (.attr (.v 1) aB) (.c (.int 0))) bj)) (.call F.fy [(.v 2)]),
  .bx (.call F.fy [(.v 2)])
   [.asg (.item (.v 0) (.c (.str d9))) (.c (.int 2))]
   []]
  []]
noncomputable def y4:List MS:=
 [.asg (.tup [2,3,4]) (.v 1),
 .bx (.cmp .gt (.item (.v 0) (.c (.str d9))) (.c (.int 0)))
  [.ret (.tup [(.c (.str pj)),(.c (.int 0))])]
  [],
 .bx (.cmp .is (.v 3) (.c .none))
  [.ret (.get (.item (.v 0) (.c (.str jz))) (.v 4) (.tup [(.c (.str jW)),(.c (.int 1))]))]
  [],
 .bx (.call F.fy [(.v 3)])
  [.asg (.item (.v 0) (.c (.str d9))) (.c (.int 1))]
  [],
 .bx (.cmp .ne (.item (.v 3) (.c (.int 0))) (.c (.str mH)))
  [.ret (.tup [(.c (.str pj)),(.c (.int 0))])]
  [],
 .bx (.cmp .in (.v 4) (.item (.v 0) (.c (.str dO))))
  [.ex (.call F.fR [(.v 0),(.v 2),(.c (.str gv))])]
  [],
 .ret (.get (.item (.item (.v 0) (.c (.str oP))) (.item (.v 3) (.c (.int 1)))) (.v 4) (.tup [(.c (.str pj)),(.c (.int 0))]))]
noncomputable def w5:List MS:=
 [.asg (.tup [4,5,6]) (.v 2),
 .bx (.cmp .gt (.item (.v 0) (.c (.str d9))) (.c (.int 0)))
  [.Dq]
  [],
 .bx (.cmp .is (.v 5) (.c .none))
  [.ex (.call F.nH [(.v 0),(.v 1),(.c (.str gC)),(.item (.v 0) (.c (.str jz))),(.v 6),(.v 3)])]
  [.bx (.call F.fy [(.v 5)])
   [.asg (.item (.v 0) (.c (.str d9))) (.c (.int 1))]
   [.bx (.and [(.cmp .eq (.item (.v 5) (.c (.int 0))) (.c (.str mH))),(.cmp .in (.v 6) (.item (.v 0) (.c (.str dO)))),(.cmp .fh (.v 3) (.c .none))])
    [.ex (.call F.fR [(.v 0),(.v 4),(.c (.str gv))])]
    [.bx (.cmp .eq (.item (.v 5) (.c (.int 0))) (.c (.str mH)))
     [.ex (.call F.nH [(.v 0),(.v 1),(.c (.str gC)),(.item (.item (.v 0) (.c (.str oP))) (.item (.v 5) (.c (.int 1)))),(.v 6),(.v 3)])]
     []]]]]
noncomputable def w8:List MS:=
 [.bx (.cmp .eq (.v 0) (.c (.str gZ)))
  [.ret (.not (.call F.fy [(.v 1)]))]
  [],
 .asg (.v 2) (.or [(.cmp .eq (.item (.v 1) (.c (.int 0))) (.c (.str mH))),(.and [(.cmp .eq (.item (.v 1) (.c (.int 0))) (.c (.str jW))),(.cmp .ne (.item (.v 1) (.c (.int 1))) (.c (.int 0)))])]),
 .ret (.cmp .eq (.v 2) (.cmp .eq (.v 0) (.c (.str fb))))]
noncomputable def oe:List MS:=
 [.bx (.and [(.cmp .eq (.item (.v 0) (.c (.str d9))) (.c (.int 0))),(.call F.fy [(.v 3)])])
  [.asg (.item (.v 0) (.c (.str d9))) (.c (.int 1))]
  [],
 .fr (.v 4) (.attr (.v 2) aB)
  [.bx (.cmp .is (.v 4) (.c .none))
   [.cont]
   [],
  .asg (.v 5) (.call F.iW [(.v 0),(.item (.attr (.v 4) aB) (.c (.int 0)))]),
  .asg (.v 6) (.tup [(.c (.str jW)),(.c (.int 1))]),
  .bx (.cmp .gt (.band (.attr (.v 4) fW) (.gc kG (.int 8192))) (.c (.int 0)))
   [.asg (.v 6) (.tup [(.c (.str mH)),(.c (.int 2))]),
   .bx (.and [(.cmp .eq (.item (.v 0) (.c (.str d9))) (.c (.int 0))),(.cmp .gt (.b1 .len (.item (.v 0) (.c (.str dO)))) (.c (.int 0)))])
    [.ex (.call F.fR [(.v 0),(.v 2),(.c (.str gv))])]
    []]
   [.bx (.cmp .eq (.attr (.v 2) az) (.gc eV (.int 34)))
    [.asg (.v 6) (.call F.iX [(.v 0),(.tup [(.v 2),(.v 3),(.attr (.v 4) fE)])])]
    []],
  .ex (.call F.iV [(.v 0),(.v 1),(.v 5),(.v 6)])]]
noncomputable def xa:List MS:=
 [.asg (.tup [2,3]) (.attr (.v 1) aB),
 .bx (.cmp .in (.attr (.v 2) az) (.tup [(.gc eV (.int 34)),(.gc fX (.int 35))]))
  [.asg (.v 4) (.call F.fB [(.v 0),(.v 3)]),
  .ex (.call F.qD [(.v 0),(.v 1),(.v 2),(.v 4)])]
  [.asg (.v 5) (.call F.iW [(.v 0),(.v 2)]),
  .asg (.v 6) (.ite (.cmp .eq (.attr (.v 1) fE) (.c (.str du))) (.tup [(.c (.str pj)),(.c (.int 0))]) (.call F.iX [(.v 0),(.v 5)])),
  .asg (.v 4) (.v 6),
  .bx (.or [(.cmp .in (.attr (.v 1) fE) (.tup [(.c (.str du)),(.c (.str cI))])),(.not (.call F.eB [(.slice (.attr (.v 1) fE) none (some (.neg (.c (.int 1))))),(.v 6)]))])
   [.asg (.v 4) (.call F.fB [(.v 0),(.v 3)]),
   .bx (.cmp .eq (.attr (.v 1) fE) (.c (.str cI)))
    [.asg (.v 4) (.tup [(.c (.str jW)),(.c (.int 1))])]
    [],
   .ex (.call F.iV [(.v 0),(.v 1),(.v 5),(.v 4)])]
   []],
 .bx (.cmp .eq (.item (.v 0) (.c (.str d9))) (.c (.int 0)))
  [.ex (.append (.item (.v 0) (.c (.str gw))) (.attr (.v 1) bj))]
  [],
 .ret (.v 4)]
noncomputable def oh:List MS:=
 [.asg (.v 2) (.call F.fB [(.v 0),(.item (.attr (.v 1) aB) (.c (.int 0)))]),
 .ex (.call F.qK [(.v 0),(.v 1),(.v 2)]),
 .fr (.v 3) (.attr (.item (.attr (.v 1) aB) (.c (.int 1))) aB)
  [.ex (.call F.fB [(.v 0),(.ite (.cmp .eq (.attr (.v 3) az) (.gc eU (.int 15))) (.item (.attr (.v 3) aB) (.c (.int 0))) (.v 3))]),
  .bx (.and [(.cmp .eq (.attr (.v 3) az) (.gc eU (.int 15))),(.cmp .eq (.item (.v 0) (.c (.str d9))) (.c (.int 0))),(.cmp .gt (.b1 .len (.item (.v 0) (.c (.str dO)))) (.c (.int 0)))])
   [.ex (.call F.fR [(.v 0),(.v 3),(.c (.str gv))])]
   []],
 .bx (.and [(.cmp .eq (.item (.v 0) (.c (.str d9))) (.c (.int 0))),(.call F.fy [(.v 2)])])
  [.asg (.item (.v 0) (.c (.str d9))) (.c (.int 1))]
  [],
 .bx (.or [(.cmp .gt (.item (.v 0) (.c (.str d9))) (.c (.int 0))),(.call F.iI [(.v 0),(.v 1)])])
  [.ret (.tup [(.c (.str jW)),(.c (.int 1))])]
  [],
 .ex (.call F.fR [(.v 0),(.v 1),(.c (.str kB))]),
 .ret (.item (.gc cH (.tup [(.tup [(.str mH),(.int 0)]),(.tup [(.str mH),(.int 1)]),(.tup [(.str mH),(.int 2)]),(.tup [(.str F8),(.int 0)]),(.tup [(.str pj),(.int 0)]),(.tup [(.str jW),(.int 0)]),(.tup [(.str jW),(.int 1)])])) (.mod (.call F.qF [(.v 0)]) (.c (.int 7))))]
noncomputable def gy:List MS:=
 [.asg (.v 2) (.item (.attr (.v 1) aB) (.c (.int 0))),
 .wh (.cmp .eq (.attr (.v 2) az) (.gc bu (.int 33)))
  [.asg (.v 2) (.item (.attr (.v 2) aB) (.c (.int 0)))],
 .ret (.and [(.cmp .eq (.attr (.v 2) az) (.gc cD (.int 8))),(.cmp .nr (.attr (.v 2) bj) (.item (.v 0) (.c (.str cc))))])]
noncomputable def jI:List MS:=
 [.bx (.cmp .ne (.attr (.v 1) fE) (.c (.str gb)))
  [.asg (.v 2) (.call F.fB [(.v 0),(.item (.attr (.v 1) aB) (.c (.int 0)))]),
  .ret (.tup [(.c (.str jW)),(.ite (.and [(.cmp .eq (.attr (.v 1) fE) (.c (.str yu))),(.call F.eB [(.c (.str fb)),(.v 2)])]) (.c (.int 0)) (.c (.int 1)))])]
  [],
 .asg (.v 3) (.item (.attr (.v 1) aB) (.c (.int 0))),
 .asg (.v 4) (.c (.bool false)),
 .wh (.cmp .in (.attr (.v 3) az) (.tup [(.gc bu (.int 33)),(.gc bA (.int 32)),(.gc cy (.int 20))]))
  [.asg (.v 4) (.or [(.v 4),(.cmp .eq (.attr (.v 3) az) (.gc cy (.int 20)))]),
  .asg (.v 3) (.item (.attr (.v 3) aB) (.c (.int 0)))],
 .ex (.call F.iV [(.v 0),(.v 1),(.call F.iW [(.v 0),(.v 3)]),(.c .none)]),
 .bx (.and [(.cmp .eq (.item (.v 0) (.c (.str d9))) (.c (.int 2))),(.v 4)])
  [.asg (.item (.v 0) (.c (.str d9))) (.c (.int 0))]
  [],
 .ret (.tup [(.c (.str jW)),(.c (.int 1))])]
noncomputable def Fv:List MS:=
 [.asg (.v 2) (.attr (.v 1) az),
 .bx (.or [(.cmp .gt (.item (.v 0) (.c (.str d9))) (.c (.int 0))),(.cmp .eq (.v 2) (.gc gh (.int 27))),(.cmp .eq (.v 2) (.gc gH (.int 61)))])
  [.ret (.tup [(.c (.str jW)),(.c (.int 1))])]
  [],
 .bx (.cmp .eq (.v 2) (.gc mK (.int 1)))
  [.ret (.tup [(.c (.str jW)),(.attr (.v 1) fE)])]
  [],
 .bx (.cmp .eq (.v 2) (.gc iz (.int 9)))
  [.ret (.item (.item (.v 0) (.c (.str jz))) (.c (.str gY)))]
  [],
 .bx (.or [(.cmp .eq (.v 2) (.gc bu (.int 33))),(.cmp .eq (.v 2) (.gc bA (.int 32)))])
  [.ret (.call F.fB [(.v 0),(.item (.attr (.v 1) aB) (.c (.int 0)))])]
  [],
 .bx (.cmp .eq (.v 2) (.gc cy (.int 20)))
  [.asg (.v 3) (.call F.fB [(.v 0),(.item (.attr (.v 1) aB) (.c (.int 0)))]),
  .bx (.cmp .eq (.item (.v 0) (.c (.str d9))) (.c (.int 2)))
   [.asg (.item (.v 0) (.c (.str d9))) (.c (.int 0)),
   .ret (.tup [(.c (.str pj)),(.c (.int 1))])]
   [],
  .ret (.v 3)]
  [],
 .bx (.cmp .in (.v 2) (.tup [(.gc cD (.int 8)),(.gc bp (.int 16)),(.gc bC (.int 17))]))
  [.ret (.call F.iX [(.v 0),(.call F.iW [(.v 0),(.v 1)])])]
  [],
 .bx (.or [(.cmp .eq (.v 2) (.gc fg (.int 18))),(.cmp .eq (.v 2) (.gc g9 (.int 19)))])
  [.ret (.call F.mE [(.v 0),(.v 1)])]
  [],
 .bx (.cmp .eq (.v 2) (.gc cG (.int 25)))
  [.ret (.call F.sV [(.v 0),(.v 1)])]
  [],
 .bx (.cmp .eq (.v 2) (.gc dQ (.int 22)))
  [.asg (.v 4) (.call F.iW [(.v 0),(.item (.attr (.v 1) aB) (.c (.int 0)))]),
  .ex (.call F.iX [(.v 0),(.v 4)]),
  .ex (.call F.iV [(.v 0),(.v 1),(.v 4),(.tup [(.c (.str jW)),(.c (.int 1))])]),
  .ret (.tup [(.c (.str jW)),(.c (.int 1))])]
  [],
 .bx (.cmp .eq (.v 2) (.gc dE (.int 21)))
  [.ret (.call F.fS [(.v 0),(.v 1)])]
  [],
 .asg (.v 3) (.call F.fB [(.v 0),(.item (.attr (.v 1) aB) (.c (.int 0)))]),
 .bx (.cmp .eq (.v 2) (.gc pw (.int 26)))
  [.ret (.call F.fB [(.v 0),(.ite (.call F.eB [(.c (.str fb)),(.v 3)]) (.item (.attr (.v 1) aB) (.c (.int 1))) (.item (.attr (.v 1) aB) (.c (.int 2))))])]
  [],
 .bx (.and [(.cmp .eq (.v 2) (.gc jC (.int 24))),(.call F.eB [(.attr (.v 1) fE),(.v 3)])])
  [.ret (.v 3)]
  [],
 .asg (.v 5) (.call F.fB [(.v 0),(.item (.attr (.v 1) aB) (.c (.int 1)))]),
 .ret (.ite (.cmp .eq (.v 2) (.gc jC (.int 24))) (.v 5) (.tup [(.c (.str jW)),(.ite (.cmp .eq (.v 3) (.v 5)) (.c (.int 1)) (.c (.int 0)))]))]
noncomputable def zc:List MS:=
 [.asg (.v 2) (.comp .f (.tup [5,6]) (.v 1) (some (.cmp .fh (.v 5) (.c .none))) (.v 5)),
 .asg (.v 3) (.comp .f (.v 7) (.v 2) (some (.and [(.cmp .lt (.b1 .len (.v 7)) (.b1 .len (.v 0))),(.cmp .eq (.slice (.v 0) none (some (.b1 .len (.v 7)))) (.v 7))])) (.v 7)),
 .asg (.v 4) (.and [(.cmp .gt (.b1 .len (.v 0)) (.c (.int 1))),(.b1 .any (.comp .f (.tup [8,9]) (.v 1) none (.or [(.cmp .is (.v 9) (.c .none)),(.cmp .in (.v 9) (.slice (.v 0) (some (.c (.int 1))) none))])))]),
 .ret (.tup [(.cmp .in (.v 0) (.v 2)),(.cmp .gt (.b1 .len (.v 3)) (.c (.int 0))),(.v 4)])]
noncomputable def w7:List MS:=
 [.ret (.or [(.cmp .eq (.item (.v 0) (.c (.str bg))) (.v 1)),(.cmp .eq (.item (.item (.v 0) (.c (.str dm))) (.c (.int 0))) (.join (.c (.str gx)) (.v 1))),(.cmp .in (.v 1) (.comp .f (.tup [2,3]) (.item (.v 0) (.c (.str cw))) none (.v 2)))])]
noncomputable def o6:List MS:=
 [.asg (.v 3) (.item (.v 2) (.c (.str au))),
 .asg (.v 4) (.item (.v 0) (.c (.str eI))),
 .asg (.v 5) (.join (.c (.str gx)) (.v 4)),
 .bx (.cmp .ne (.b1 .sorted (.comp .f (.v 8) (.call F.rp [(.v 3)]) none (.attr (.v 8) bj))) (.b1 .sorted (.comp .f (.v 9) (.item (.v 2) (.c (.str aq))) none (.attr (.v 9) bj))))
  [.ret (.c (.bool false))]
  [],
 .asg (.v 6) (.comp .f (.tup [10,11]) (.item (.v 2) (.c (.str aG))) none (.call F.kj [(.v 4),(.v 11)])),
 .bx (.cmp .ne (.call F.pd [(.v 1),(.v 3),(.v 5)]) (.b1 .any (.comp .f (.v 12) (.v 6) none (.or [(.item (.v 12) (.c (.int 0))),(.item (.v 12) (.c (.int 1)))]))))
  [.ret (.c (.bool false))]
  [],
 .asg (.v 7) (.call F.oy [(.v 3)]),
 .bx (.or [(.cmp .ne (.ite (.cmp .is (.v 7) (.c .none)) (.c (.int 0)) (.attr (.v 7) bj)) (.item (.v 2) (.c (.str bK)))),(.cmp .ne (.call F.jE [(.v 3),(.item (.v 0) (.c (.str cc)))]) (.item (.v 2) (.c (.str dm))))])
  [.ret (.c (.bool false))]
  [],
 .bx (.cmp .ne (.call F.gm [(.v 3),(.v 5),(.item (.v 0) (.c (.str cc)))]) (.cmp .in (.v 4) (.comp .f (.tup [13,14]) (.item (.v 2) (.c (.str cw))) none (.v 13))))
  [.ret (.c (.bool false))]
  [],
 .bx (.cmp .ne (.call F.kS [(.v 1),(.v 3),(.v 5)]) (.call F.gP [(.v 2),(.v 4)]))
  [.ret (.c (.bool false))]
  [],
 .ret (.cmp .eq (.comp .f (.v 15) (.add .f (.call F.jk [(.gc wx (.int 5)),(.v 3),(.tup [])]) (.call F.jk [(.gc uy (.int 6)),(.v 3),(.tup [(.c (.int 1))])])) none (.attr (.v 15) bj)) (.list .f [(.attr (.v 3) bj),(.attr (.v 3) bj)]))]
noncomputable def jT:List MS:=
 [.asg (.v 3) (.item (.v 2) (.c (.str au))),
 .asg (.v 4) (.join (.c (.str gx)) (.item (.v 0) (.c (.str eI)))),
 .asg (.item (.v 0) (.c (.str d9))) (.c (.int 0)),
 .asg (.item (.v 0) (.c (.str gw))) (.list (.g 8) []),
 .asg (.item (.v 0) (.c (.str gg))) (.list (.g 9) []),
 .asg (.v 5) (.call F.fB [(.v 0),(.v 3)]),
 .asg (.v 6) (.comp .f (.v 11) (.call F.rp [(.v 3)]) none (.attr (.v 11) bj)),
 .fj 0 gg,
 .fr (.tup [7,8]) (.item (.v 0) (.c (.str gg)))
  [.bx (.cmp .nr (.attr (.v 7) bj) (.v 6))
   [.ret (.c (.bool false))]
   [],
  .bx (.and [(.cmp .eq (.v 8) (.c (.str gC))),(.not (.or [(.mB (.v 1) kz [(.v 7),(.v 4)]),(.mB (.v 1) iw [(.v 7),(.v 4)]),(.call F.mC [(.v 7),(.v 4)])]))])
   [.ret (.c (.bool false))]
   [],
  .bx (.or [(.and [(.cmp .eq (.v 8) (.c (.str kB))),(.not (.call F.o5 [(.v 1),(.v 7)]))]),(.and [(.cmp .eq (.v 8) (.c (.str gv))),(.not (.call F.gF [(.item (.v 0) (.c (.str dO))),(.v 7)]))])])
   [.ret (.c (.bool false))]
   []],
 .asg (.v 9) (.call F.oy [(.v 3)]),
 .bx (.and [(.cmp .fh (.v 9) (.c .none)),(.cmp .in (.attr (.v 9) bj) (.item (.v 0) (.c (.str gw))))])
  [.asg (.v 10) (.item (.comp .f (.v 12) (.gW (.b1 .len (.item (.v 0) (.c (.str gw))))) (some (.cmp .eq (.item (.item (.v 0) (.c (.str gw))) (.v 12)) (.attr (.v 9) bj))) (.v 12)) (.neg (.c (.int 1)))),
  .bx (.not (.b1 .all (.comp .f (.v 13) (.slice (.item (.v 0) (.c (.str gw))) none (some (.v 10))) none (.cmp .in (.v 13) (.item (.item (.v 0) (.c (.str qO))) (.attr (.v 9) bj))))))
   [.ret (.c (.bool false))]
   []]
  [],
 .bx (.and [(.cmp .eq (.item (.v 0) (.c (.str d9))) (.c (.int 0))),(.cmp .ne (.v 5) (.tup [(.c (.str pj)),(.c (.int 1))])),(.call F.gm [(.v 3),(.v 4),(.item (.v 0) (.c (.str cc)))])])
  [.ret (.not (.b1 .any (.comp .f (.tup [14,15]) (.item (.v 2) (.c (.str cw))) (some (.cmp .eq (.v 14) (.item (.v 0) (.c (.str eI))))) (.get (.item (.v 0) (.c (.str wu))) (.v 15) (.c (.bool true))))))]
  [],
 .ret (.c (.bool true))]
noncomputable def iC:List MS:=
 [.asg (.v 2) (.item (.v 0) (.c (.str eI))),
 .asg (.v 3) (.join (.c (.str gx)) (.v 2)),
 .fj 0 ja,
 .fr (.tup [4,5]) (.item (.v 0) (.c (.str ja)))
  [.bx (.cmp .ne (.tup [(.mB (.v 1) kz [(.v 4),(.v 3)]),(.mB (.v 1) iw [(.v 4),(.v 3)]),(.call F.mC [(.v 4),(.v 3)])]) (.call F.kj [(.v 2),(.v 5)]))
   [.ret (.c (.bool false))]
   []],
 .asg (.v 6) (.item (.v 0) (.c (.str dO))),
 .fj 0 iv,
 .fr (.tup [4,7,8]) (.item (.v 0) (.c (.str iv)))
  [.asg (.v 9) (.or [(.cmp .in (.c .none) (.v 7)),(.v 8)]),
  .bx (.cmp .ne (.call F.gF [(.v 6),(.v 4)]) (.or [(.b1 .any (.comp .f (.v 18) (.v 7) none (.cmp .in (.v 18) (.v 6)))),(.and [(.v 9),(.cmp .gt (.b1 .len (.v 6)) (.c (.int 0)))])]))
   [.ret (.c (.bool false))]
   []],
 .fj 0 lb,
 .fr (.tup [4,10,11,12]) (.item (.v 0) (.c (.str lb)))
  [.bx (.cmp .eq (.call F.o5 [(.v 1),(.v 4)]) (.call F.iI [(.v 0),(.v 4)]))
   [.ret (.c (.bool false))]
   [],
  .bx (.cmp .eq (.attr (.v 4) az) (.gc g9 (.int 19)))
   [.cont]
   [],
  .asg (.v 13) (.comp .f (.v 19) (.v 10) none (.and [(.cmp .fh (.v 19) (.c .none)),(.call F.gP [(.v 19),(.v 2)])])),
  .asg (.v 14) (.item (.v 11) (.c (.str dh))),
  .bx (.cmp .ne (.call F.iL [(.v 1),(.v 4),(.v 3)]) (.or [(.b1 .any (.v 13)),(.and [(.cmp .fh (.v 14) (.c .none)),(.call F.gP [(.v 14),(.v 2)])])]))
   [.ret (.c (.bool false))]
   [],
  .asg (.v 15) (.call F.gG [(.v 4),(.sub (.c (.int 0)) (.c (.int 1)))]),
  .bx (.or [(.cmp .ne (.ite (.cmp .is (.v 15) (.c .none)) (.c (.int 0)) (.attr (.v 15) bj)) (.ite (.cmp .is (.v 14) (.c .none)) (.c (.int 0)) (.attr (.item (.v 14) (.c (.str au))) bj))),(.cmp .ne (.call F.oz [(.v 4)]) (.v 12))])
   [.ret (.c (.bool false))]
   [],
  .fr (.v 16) (.gW (.add .f (.b1 .len (.v 10)) (.c (.int 1))))
   [.asg (.v 15) (.call F.gG [(.v 4),(.v 16)]),
   .asg (.v 17) (.ite (.or [(.cmp .eq (.v 16) (.b1 .len (.v 10))),(.cmp .in (.c .none) (.slice (.v 10) none (some (.add .f (.v 16) (.c (.int 1))))))]) (.c (.int 0)) (.attr (.item (.item (.v 10) (.v 16)) (.c (.str au))) bj)),
   .bx (.cmp .ne (.ite (.cmp .is (.v 15) (.c .none)) (.c (.int 0)) (.attr (.v 15) bj)) (.v 17))
    [.ret (.c (.bool false))]
    []]],
 .ret (.c (.bool true))]
noncomputable def lJ:List MS:=
 [.asg (.v 2) (.comp .f (.v 15) (.slice (.item (.v 0) (.c (.str eY))) (some (.c (.int 1))) none) none (.item (.v 15) (.c (.str au)))),
 .asg (.v 3) (.mod (.v 1) (.add .f (.b1 .len (.v 2)) (.c (.int 2)))),
 .asg (.v 2) (.ite (.cmp .le (.v 3) (.b1 .len (.v 2))) (.add .f (.add .f (.slice (.v 2) none (some (.v 3))) (.list .f [(.c .none)])) (.slice (.v 2) (some (.v 3)) none)) (.v 2)),
 .asg (.v 4) (.comp .f (.v 16) (.v 2) none (.call F.aX [(.v 0),(.gc wy (.int 51)),(.c (.str bO)),(.list .f [(.v 16)]),(.c (.int 0))])),
 .asg (.v 5) (.item (.item (.item (.v 0) (.c (.str eY))) (.c (.int 0))) (.c (.str au))),
 .asg (.v 6) (.call F.aX [(.v 0),(.gc rY (.int 50)),(.c (.str bO)),(.add .f (.list .f [(.v 5)]) (.v 4)),(.c (.int 0))]),
 .asg (.v 7) (.comp .f (.v 17) (.gW (.b1 .len (.v 2))) (some (.cmp .fh (.item (.v 2) (.v 17)) (.c .none))) (.v 17)),
 .asg (.v 8) (.comp .f (.v 18) (.gW (.b1 .len (.v 2))) (some (.cmp .is (.item (.v 2) (.v 18)) (.c .none))) (.v 18)),
 .fr (.v 9) (.gW (.add .f (.b1 .len (.v 2)) (.c (.int 1))))
  [.fr (.v 10) (.qr (.v 9) (.add .f (.b1 .len (.v 2)) (.c (.int 1))))
   [.asg (.v 11) (.list .f [(.attr (.v 5) bj)]),
   .fr (.v 12) (.add .f (.v 7) (.list .f [(.sub (.c (.int 0)) (.c (.int 1)))]))
    [.asg (.v 13) (.ite (.cmp .ge (.v 12) (.c (.int 0))) (.v 12) (.item (.add .f (.v 8) (.list .f [(.sub (.c (.int 0)) (.c (.int 1)))])) (.c (.int 0)))),
    .bx (.or [(.BP .le .lt (.v 9) (.v 13) (.v 10)),(.and [(.cmp .eq (.v 9) (.v 10)),(.cmp .lt (.v 12) (.c (.int 0)))])])
     [.asg (.v 14) (.comp .f (.v 19) (.v 7) (some (.or [(.cmp .lt (.v 12) (.c (.int 0))),(.cmp .le (.v 19) (.v 12))])) (.attr (.item (.v 2) (.v 19)) bj)),
     .asg (.v 11) (.ite (.cmp .lt (.b1 .len (.v 14)) (.b1 .len (.v 11))) (.v 11) (.add .f (.list .f [(.attr (.v 5) bj)]) (.v 14)))]
     []],
   .bx (.cmp .ne (.comp .f (.v 20) (.call F.jk [(.gc pv (.int 8)),(.v 6),(.tup [(.v 9),(.v 10)])]) none (.attr (.v 20) bj)) (.v 11))
    [.ret (.c (.bool false))]
    []]],
 .ret (.c (.bool true))]
noncomputable def J7:List MS:=
 [.asg (.v 0) (.slice (.v 0) none (some (.c (.int 32)))),
 .asg (.v 1) (.comp .f (.v 7) (.v 0) none (.mod (.v 7) (.c (.int 1048576)))),
 .asg (.v 1) (.add .f (.v 1) (.slice (.list .f [(.c (.int 0)),(.c (.int 0)),(.c (.int 2)),(.c (.int 1)),(.c (.int 5))]) (some (.b1 .len (.v 1))) none)),
 .asg (.v 2) (.item (.v 1) (.c (.int 0))),
 .asg (.v 3) (.fN (.g 0) [qP,ux,cc,eY,iv,ja,lb,qO,wu,uu] [(.v 1),(.c (.int 0)),(.lX (.g 1) [] []),(.list .f []),(.list (.g 2) []),(.list (.g 3) []),(.list (.g 4) []),(.lX (.g 5) [] []),(.lX (.g 6) [] []),(.c (.int 0))]),
 .asg (.item (.v 3) (.c (.str eI))) (.item (.gc nP (.tup [(.tup [(.str jy)]),(.tup [(.str jy),(.str fE)]),(.tup [(.str jy),(.str fE),(.str ou)]),(.tup [(.str gY),(.str fE)]),(.tup [(.str mG),(.str ou)])])) (.mod (.fdiv (.v 2) (.c (.int 144))) (.c (.int 5)))),
 .asg (.item (.v 3) (.c (.str dO))) (.item (.list .f [(.fN .f [] []),(.fN .f [fE] [(.c (.int 1))]),(.fN .f [] []),(.fN .f [ou] [(.c (.int 1))]),(.fN .f [fE,ou] [(.c (.int 1)),(.c (.int 1))]),(.fN .f [] [])]) (.mod (.fdiv (.v 2) (.c (.int 720))) (.c (.int 6)))),
 .asg (.item (.v 3) (.c (.str jz))) (.fN (.g 7) [jy,mG,ym,gY] [(.item (.gc cH (.tup [(.tup [(.str mH),(.int 0)]),(.tup [(.str mH),(.int 1)]),(.tup [(.str mH),(.int 2)]),(.tup [(.str F8),(.int 0)]),(.tup [(.str pj),(.int 0)]),(.tup [(.str jW),(.int 0)]),(.tup [(.str jW),(.int 1)])])) (.mod (.v 2) (.c (.int 4)))),(.item (.gc cH (.tup [(.tup [(.str mH),(.int 0)]),(.tup [(.str mH),(.int 1)]),(.tup [(.str mH),(.int 2)]),(.tup [(.str F8),(.int 0)]),(.tup [(.str pj),(.int 0)]),(.tup [(.str jW),(.int 0)]),(.tup [(.str jW),(.int 1)])])) (.mod (.fdiv (.v 2) (.c (.int 4))) (.c (.int 4)))),(.tup [(.c (.str jW)),(.c (.int 1))]),(.item (.gc cH (.tup [(.tup [(.str mH),(.int 0)]),(.tup [(.str mH),(.int 1)]),(.tup [(.str mH),(.int 2)]),(.tup [(.str F8),(.int 0)]),(.tup [(.str pj),(.int 0)]),(.tup [(.str jW),(.int 0)]),(.tup [(.str jW),(.int 1)])])) (.mod (.fdiv (.v 2) (.c (.int 16))) (.c (.int 3))))]),
 .asg (.item (.v 3) (.c (.str oP))) (.list .f [(.fN (.g 10) [fE,ou] [(.tup [(.c (.str mH)),(.c (.int 1))]),(.tup [(.c (.str jW)),(.c (.int 0))])]),(.fN (.g 11) [fE,ou] [(.tup [(.c (.str jW)),(.c (.int 1))]),(.tup [(.c (.str mH)),(.c (.int 2))])]),(.fN (.g 12) [fE,ou] [(.tup [(.c (.str F8)),(.c (.int 0))]),(.tup [(.c (.str pj)),(.c (.int 0))])])]),
 .fr (.v 4) (.slice (.v 1) (some (.c (.int 1))) none)
  [.ex (.call F.qE [(.v 3),(.v 4)])],
 .asg (.item (.v 3) (.c (.str eY))) (.comp .f (.v 8) (.item (.v 3) (.c (.str eY))) none (.call F.fx [(.v 3),(.v 8)])),
 .asg (.v 5) (.new 1 [(.c .none),(.item (.v 3) (.c (.str cc)))]),
 .kP 5 [],
 .fr (.v 6) (.item (.v 3) (.c (.str eY)))
  [.bx (.or [(.not (.call F.ki [(.v 3),(.v 5),(.v 6)])),(.not (.call F.lT [(.v 3),(.v 5),(.v 6)]))])
   [.ret (.c (.bool false))]
   []],
 .ret (.and [(.call F.jS [(.v 3),(.v 5)]),(.call F.iq [(.v 3),(.fdiv (.v 2) (.c (.int 48)))])])]
noncomputable def td:List Fn:=[
 ⟨6,6,xe⟩,
 ⟨2,2,Q3⟩,
 ⟨1,1,Fw⟩,
 ⟨1,1,si⟩,
 ⟨1,1,sh⟩,
 ⟨2,3,yW⟩,
 ⟨2,5,tu⟩,
 ⟨2,2,n9⟩,
 ⟨1,5,jh⟩,
 ⟨1,1,rC⟩,
 ⟨2,3,r7⟩,
 ⟨3,3,vc⟩,
 ⟨3,3,vb⟩,
 ⟨3,4,lZ⟩,
 ⟨2,3,xb⟩,
 ⟨2,5,oa⟩,
 ⟨2,3,xc⟩,
 ⟨3,9,rB⟩,
 ⟨1,2,pC⟩,
 ⟨1,5,rH⟩,
 ⟨2,5,rD⟩,
 ⟨1,1,Av⟩,
 ⟨2,3,u9⟩,
 ⟨3,3,lY⟩,
 ⟨3,3,ze⟩,
 ⟨3,6,iM⟩,
 ⟨2,5,rE⟩,
 ⟨3,6,pK⟩,
 ⟨1,1,pD⟩,
 ⟨0,0,w9⟩,
 ⟨5,6,y7⟩,
 ⟨2,4,rF⟩,
 ⟨3,5,y0⟩,
 ⟨2,2,yZ⟩,
 ⟨2,2,zb⟩,
 ⟨2,2,y5⟩,
 ⟨2,5,y8⟩,
 ⟨2,4,y9⟩,
 ⟨3,9,u5⟩,
 ⟨4,15,rG⟩,
 ⟨2,3,u0⟩,
 ⟨1,1,sj⟩,
 ⟨3,3,B5⟩,
 ⟨3,14,u6⟩,
 ⟨3,5,w6⟩,
 ⟨3,7,uZ⟩,
 ⟨4,12,za⟩,
 ⟨2,8,yX⟩,
 ⟨1,1,y1⟩,
 ⟨1,4,fk⟩,
 ⟨6,7,B6⟩,
 ⟨3,5,u4⟩,
 ⟨1,1,y6⟩,
 ⟨2,5,yY⟩,
 ⟨3,3,zd⟩,
 ⟨2,5,y4⟩,
 ⟨4,7,w5⟩,
 ⟨2,3,w8⟩,
 ⟨4,7,oe⟩,
 ⟨2,7,xa⟩,
 ⟨2,4,oh⟩,
 ⟨2,3,gy⟩,
 ⟨2,5,jI⟩,
 ⟨2,6,Fv⟩,
 ⟨2,10,zc⟩,
 ⟨2,4,w7⟩,
 ⟨3,16,o6⟩,
 ⟨3,16,jT⟩,
 ⟨2,20,iC⟩,
 ⟨2,21,lJ⟩,
 ⟨1,9,J7⟩]
noncomputable def uQ:List (List Sx):=[
 [ur,az,fE,aB,fW,Bq],
 [au,yq],
 [au],
 [au],
 [au],
 [au,cc,Jz],
 [au,cc,LV,cP,L2],
 [au,cc],
 [sY,Eg,eY,au,pq],
 [au],
 [au,cc],
 [ur,pn,cc],
 [ur,au,eI],
 [ur,au,eI,wq],
 [dO,au,cP],
 [au,eI,LY,wq,cP],
 [iy,au,kA],
 [az,au,HI,Ej,HL,zY],
 [au,Bm],
 [au,Eg,sX,Jy],
 [dO,au,yo],
 [au],
 [au,cc,cP],
 [au,eI,cc],
 [iy,Bo,eI],
 [iy,au,eI,sX,Jy],
 [kB,uv,kA,yr,JC],
 [iy,kB,eI,yp],
 [au],
 [],
 [ky,az,fE,aB,fW,au],
 [au,aB,jb,pq],
 [ky,az,pq,jb,uo],
 [ky,jb],
 [ky,jb],
 [ky,jb],
 [ky,LU,au,jb,Jz],
 [ky,JA,uq,jb],
 [ky,JA,pq,cP,yq,PT,au,z0,jb],
 [ky,JA,PY,aB,kA,zZ,yr,HD,Eh,pq,LZ,yq,yo,au,jb],
 [ky,jb,L5],
 [jb],
 [ky,jb,nO],
 [ky,JA,aB,PU,Hx,L3,Ti,nO,Ei,HF,HN,Eh,jb],
 [ky,JA,pq,yl,jb],
 [ky,JA,pq,L0,jb,HH,yn],
 [ky,JB,JA,aB,PU,jb,pq,zZ,az,yl],
 [ky,Hv,JB,JA,eY,HJ,aB],
 [ky],
 [ky,Eg,cP,yk],
 [ky,qQ,uq,P4,cP,yk,Ek],
 [ky,qQ,uq,V7,yk],
 [yk],
 [ky,au,yk,cP,z0],
 [ky,au,yk],
 [ky,qN,au,yk,cP],
 [ky,qQ,qN,yk,au,El,cP],
 [yl,yk,Hy],
 [ky,qQ,sY,yk,LX,qN,HA],
 [ky,au,Ei,Hz,yk,qN,PX],
 [ky,au,yk,JC],
 [ky,kB,kA],
 [ky,au,yk,uv,HK],
 [ky,au,az,yk,qN,HC],
 [eI,nO,HB,iw,HP],
 [jb,eI],
 [ky,iy,jb,au,eI,uo,yn,z4],
 [ky,iy,jb,au,uo,yk,LW,qQ,uq,z4,L1],
 [ky,iy,eI,uo,au,nO,dO,HE,yo,rX,yr,kA,P2,LS,El,PW,uv,P1],
 [ky,UN,zY,Bp,yn,Bn,au,nO,HG,PZ,Ej,HO,P0,L6,PV],
 [Ef,qP,UN,ky,Hv,iy,jb]]
noncomputable def o4:Nat->List Sx
 | 0=>[az,fE,aB,fW,Bq,bj]
 | 1=>[pn,cc,jA,mF,mI]
 | _=>[]
noncomputable def pg:Pg where
 fns f:=td[f]?
 init:=λ | 0=>some F.tD | 1=>some F.rN | _=>none
 mB:=λc n=>if c=1 then (if n=kz then some F.jL else if n=iw then some F.iD else none)else none
 fields:=o4
end Mn
end
section
open PySem PySem.W PyProof.Rows
set_option genInjectivity false
namespace Mn
set_option autoImplicit true
section
variable{α β γ:Type}{P:Prop}{r:β}
theorem JP{b:Bool}{m:HM α}{h:Hp}{r:α×Hp}(e:gd b m h=some r)(p:b=true->m h=some r->P):P:=by
 cases b with
 | true=>exact p rfl e
 | false=>cases e
theorem iJ{b:Bool}{m:Option β}(e:uO b m=some r)(p:b=true->m=some r->P):P:=by
 cases b with
 | true=>exact p rfl e
 | false=>cases e
theorem fv{o:Option α}{f:α->Option β}{d:Option β}(e:oS o f d=some r)(p:∀a,o=some a->f a=some r->P)(q:d=some r->P):P:=by
 cases o with
 | none=>exact q e
 | some a=>exact p a rfl e
theorem ed{m:HM α}{k:α->HM β}{h:Hp}{r:β×Hp}(e:aL m k h=some r)(p:∀a h1,m h=some (a,h1)->k a h1=some r->P):P:=
 match q:m h,(show (match m h with | some (a,h)=>k a h | none=>none)=some r from e)with
 | some (a,h1),e=>p a h1 q e
theorem aA{x:β}(e:none=some x):P:=nomatch e
@[elab_as_elim]
theorem jP{x y:α}{h h':β}(e:some (x,h)=some (y,h')){P:α->β->Prop}(p:P x h):P y h':=by cases e;exact p
theorem fQ{x:aa}{f:Int->Option β}{d:Option β}(e:x.gu f d=some r)(p:∀i,x= .int i->f i=some r->P)(q:d=some r->P):P:=by
 cases x <;> first | exact q e | exact p _ rfl e
theorem j9{x:aa}{f:Sx->Option β}{d:Option β}(e:x.iH f d=some r)(p:∀i,x= .str i->f i=some r->P)(q:d=some r->P):P:=by
 cases x <;> first | exact q e | exact p _ rfl e
theorem mv{x:aa}{f:List aa->Option β}{d:Option β}(e:x.vS f d=some r)(p:∀i,x= .tup i->f i=some r->P)(q:d=some r->P):P:=by
 cases x <;> first | exact q e | exact p _ rfl e
theorem oC{x:aa}{f:List aa->Option β}{d:Option β}(e:x.pQ f d=some r)(p:∀i,x= .list i->f i=some r->P)(q:d=some r->P):P:=by
 cases x <;> first | exact q e | exact p _ rfl e
theorem t9{x:aa}{f d:Option β}(e:x.vp f d=some r)(p:x= .none->f=some r->P)(q:d=some r->P):P:=by
 cases x <;> first | exact q e | exact p rfl e
theorem DG{x:aa}{f:Bool->Option β}{d:Option β}(e:x.Ph f d=some r)(p:∀i,x= .bool i->f i=some r->P)(q:d=some r->P):P:=by
 cases x <;> first | exact q e | exact p _ rfl e
theorem vU{o:Option ak}{f:List aa->Option β}{d:Option β}(e:oL o f d=some r)(p:∀i,o=some (.list i)->f i=some r->P)(q:d=some r->P):P:=by
 rcases o with _ | o
 ·exact q e
 ·cases o <;> first | exact q e | exact p _ rfl e
theorem oE{o:Option ak}{f:List (Sx×aa)->Option β}{d:Option β}(e:ie o f d=some r)(p:∀i,o=some (.sd i)->f i=some r->P)(q:d=some r->P):P:=by
 rcases o with _ | o
 ·exact q e
 ·cases o <;> first | exact q e | exact p _ rfl e
theorem qv{o:Option ak}{f:List (Int×aa)->Option β}{d:Option β}(e:oF o f d=some r)(p:∀i,o=some (.eg i)->f i=some r->P)(q:d=some r->P):P:=by
 rcases o with _ | o
 ·exact q e
 ·cases o <;> first | exact q e | exact p _ rfl e
theorem iE{l:List α}{x:β}(e:rP l x=some r)(p:l.length < LF->x=r->P):P:=by
 unfold rP at e
 cases q:small l.length with
 | true=>rw [q]at e;exact p (of_decide_eq_true q) (ay e)
 | false=>rw [q]at e;cases e
end
noncomputable abbrev Facts:=Addr->Obj->Prop
noncomputable abbrev Sg:=aa->Option Addr
noncomputable def Facts.has(P:Facts)(a:Addr):Prop:=∃o,P a o
noncomputable def Holds(P:Facts)(h:Heap):Prop:=∀b o,P b o->h.get? b=some o
noncomputable def Cs(s:Sx):Prop:=∀c∈s,c < 128
noncomputable def toS(s:Sx):PySem.Str:=⟨s.toArray⟩
theorem qc(s:PySem.Str):toS s.cps.toList=s:=rfl
theorem Gn(s:Sx):(toS s).cps.toList=s:=rfl
theorem fm{a b:Sx}(h:toS a=toS b):a=b:=congrArg (·.cps.toList) h
section
variable{α β κ κ':Type}
inductive bD(R:α->β->Prop):List α->List β->Prop
 | nil:bD R [] []
 | cons {v x vs xs}:R v x->bD R vs xs->bD R (v::vs) (x::xs)
inductive bG(R:α->β->Prop)(f:κ->κ'):List (κ'×α)->List (κ×β)->Prop
 | nil:bG R f [] []
 | cons {k v x vs xs}:R v x->bG R f vs xs->bG R f ((f k,v)::vs) ((k,x)::xs)
end
section
variable{prog:Program}{w:World}
noncomputable def ot{K:Type} [DecidableEq K](knd:KeyKind prog w K)(P:Facts)(a:Addr)(kvs:List (K×Value)):Prop:=
 a≠sysModules/\∃o es ep,P a o/\o.ExactDict/\o.data= .dict es ep/\KeysOf knd es/\Pairs knd es.toList kvs/\(kvs.map (·.1)).Nodup
noncomputable def NC(P:Facts)(a:Addr)(m:PySem.Str->Option Value):Prop:=
 ∃o es ep,P a o/\o.data= .dict es ep/\StrKeys es/\UniqKeys es/\∀name,nsFind es name=m name
end
structure Cx where
 prog:Program
 w:World
 cA:Nat->Addr
 fA:Nat->Addr
 K:Frag
 h0:Heap
 P:Pg
set_option inductive.autoPromoteIndices false in
inductive OB(Ω:Cx)(R:Value->aa->Prop)(At:Facts)(σ:Sg):Addr->ak->Prop
 | list {a vs n xs}:At a {cls:=.type "list",data:=.seq vs n}->bD R vs.toList xs->OB Ω R At σ a (.list xs)
 | sd {a kvs' kvs}:ot (strKind Ω.prog Ω.w) At a kvs'->bG R toS kvs' kvs->OB Ω R At σ a (.sd kvs)
 | eg {a kvs' kvs}:ot (intKind Ω.prog Ω.w) At a kvs'->bG R id kvs' kvs->OB Ω R At σ a (.eg kvs)
 | inst {a c did dx}:At a (instObj (Ω.cA c) dx)->σ (.af did)=some dx->OB Ω R At σ a (.inst c did)
 | ns {a mm fs} {um:Sx->Value}:NC At a mm->(∀n v,bZ fs n=some v->mm (toS n)=some (um n))->(∀n v,bZ fs n=some v->R (um n) v)->(∀n,bZ fs n=none->mm (toS n)=none)->OB Ω R At σ a (.ns fs)
inductive VR(Ω:Cx)(Φ:Facts)(σ:Sg):Value->aa->Prop
 | none:VR Ω Φ σ .none .none
 | bool (b:Bool):VR Ω Φ σ (.bool b) (.bool b)
 | int (i:Int) (t:Tok):VR Ω Φ σ (.int i t) (.int i)
 | str (s:Sx) (t:Tok):Cs s->VR Ω Φ σ (.str (toS s) t) (.str s)
 | tup {a o vs n xs}:Φ a o->o.cls= .type "tuple"->o.data= .seq vs n->bD (VR Ω Φ σ) vs.toList xs->VR Ω Φ σ (.ref a) (.tup xs)
 | list {a o vs n xs}:Φ a o->o.cls= .type "list"->o.data= .seq vs n->bD (VR Ω Φ σ) vs.toList xs->VR Ω Φ σ (.ref a) (.list xs)
 | sd {a kvs}:OB Ω (VR Ω Φ σ) Φ σ a (.sd kvs)->VR Ω Φ σ (.ref a) (.sd kvs)
 | eg {a kvs}:OB Ω (VR Ω Φ σ) Φ σ a (.eg kvs)->VR Ω Φ σ (.ref a) (.eg kvs)
 | inst {a c dx fs}:Φ a (instObj (Ω.cA c) dx)->OB Ω (VR Ω Φ σ) Φ σ dx (.ns fs)->VR Ω Φ σ (.ref a) (.inst c fs)
 | rT {a i j} {n:Nat} {t t' t'':Tok}:Φ a {cls:=.type "range",data:=.fields #[.int i t,.int j t',.int 1 t'']}->n=(j - i).toNat-> -1048576 < i/\i < 1048576/\ -1048576 < j/\j < 1048576->VR Ω Φ σ (.ref a) (.rT i n)
 | bw {a k id}:σ (.bw k id)=some a->VR Ω Φ σ (.ref a) (.bw k id)
 | af {a id}:σ (.af id)=some a->VR Ω Φ σ (.ref a) (.af id)
section
variable{Ω:Cx}{Φ Φ':Facts}{σ σ':Sg}
noncomputable def Le(P P':Facts):Prop:=∀b o,P b o->P' b o
noncomputable def ow(σ σ':Sg):Prop:=∀l a,σ l=some a->σ' l=some a
theorem Le.refl:Le Φ Φ:=λ_ _ h=>h
theorem ow.refl:ow σ σ:=λ_ _ h=>h
theorem Le.trans{Φ''}(a:Le Φ Φ')(b:Le Φ' Φ''):Le Φ Φ'':=λ_ _ h=>b _ _ (a _ _ h)
theorem ow.trans{σ''}(a:ow σ σ')(b:ow σ' σ''):ow σ σ'':=λ_ _ h=>b _ _ (a _ _ h)
noncomputable def Rp(a:Addr)(P P':Facts):Prop:=∀o,P a o->P' a o
theorem ot.mono{prog:Program}{w:World}{K:Type} [DecidableEq K]{knd:KeyKind prog w K}{P P':Facts}{a:Addr}{kvs:List (K×Value)}(x:ot knd P a kvs)(hp:Rp a P P'):ot knd P' a kvs:=
 x.imp_right λx=>x.imp λ_ x=>x.imp λ_ x=>x.imp λ_ x=>x.imp_left (hp _)
theorem NC.mono{P P':Facts}{a:Addr}{m:PySem.Str->Option Value}(x:NC P a m)(hp:Rp a P P'):NC P' a m:=
 x.imp λ_ x=>x.imp λ_ x=>x.imp λ_ x=>x.imp_left (hp _)
theorem OB.mono{R R':Value->aa->Prop}{At At':Facts}{a:Addr}{ob:ak}(x:OB Ω R At σ a ob)(l:Rp a At At')(r:ow σ σ')(k:∀v x,R v x->R' v x):OB Ω R' At' σ' a ob:=
 have k2:∀{vs xs},bD R vs xs->bD R' vs xs:=λh=>bD.rec .nil (λa _ b=>.cons (k _ _ a) b) h
 have kK:∀{κ κ'} {f:κ->κ'} {vs xs},bG R f vs xs->bG R' f vs xs:=λh=>bG.rec .nil (λa _ b=>.cons (k _ _ a) b) h
 OB.rec (motive:=λa ob _=>Rp a At At'->OB Ω R' At' σ' a ob) (λh1 h2 l=>.list (l _ h1) (k2 h2)) (λh1 h2 l=>.sd (h1.mono l) (kK h2)) (λh1 h2 l=>.eg (h1.mono l) (kK h2))
  (λh1 h2 l=>.inst (l _ h1) (r _ _ h2)) (λh1 h2 h3 h4 l=>.ns (h1.mono l) h2 (λn v e=>k _ _ (h3 n v e)) h4) x l
theorem VR.mono(l:Le Φ Φ')(r:ow σ σ'){v:Value}{x:aa}(R:VR Ω Φ σ v x):VR Ω Φ' σ' v x:=
 VR.rec (motive_1:=λv x _=>VR Ω Φ' σ' v x) (motive_2:=λvs xs _=>bD (VR Ω Φ' σ') vs xs) (motive_3:=λa ob _=>OB Ω (VR Ω Φ' σ') Φ' σ' a ob) (motive_4:=λvs xs _=>bG (VR Ω Φ' σ') toS vs xs) (motive_5:=λvs xs _=>bG (VR Ω Φ' σ') id vs xs)
  .none .bool .int .str (λh1 h2 h3 _ k=>.tup (l _ _ h1) h2 h3 k) (λh1 h2 h3 _ k=>.list (l _ _ h1) h2 h3 k) (λ_=>.sd) (λ_=>.eg) (λh1 _ k=>.inst (l _ _ h1) k)
  (λh1 h2 h3=>.rT (l _ _ h1) h2 h3) (λh=>.bw (r _ _ h)) (λh=>.af (r _ _ h)) .nil (λ_ _=>.cons)
  (λh1 _ k=>.list (l _ _ h1) k) (λh1 _ k=>.sd (h1.mono (l _)) k) (λh1 _ k=>.eg (h1.mono (l _)) k) (λh1 h2=>.inst (l _ _ h1) (r _ _ h2)) (λh1 h2 _ h4 k=>.ns (h1.mono (l _)) h2 k h4)
  .nil (λ_ _=>.cons) .nil (λ_ _=>.cons) R
@[elab_as_elim]
theorem VR.cQ{v:Value}{x:aa}(R:VR Ω Φ σ v x){i:Int}(e:x= .int i){P:Value->Prop}(p:∀t,P (.int i t)):P v:=by
 subst e;cases R;exact p _
end
section
variable{α β κ κ':Type}{R:α->β->Prop}{f:κ->κ'}{vs ws:List α}{xs ys:List β}
theorem bD.length(h:bD R vs xs):vs.length=xs.length:=bD.rec rfl (λ_ _ e=>congrArg Nat.succ e) h
theorem bD.append(h:bD R vs xs)(k:bD R ws ys):bD R (vs++ws) (xs++ys):=bD.rec (motive:=λvs xs _=>bD R (vs++ws) (xs++ys)) k (λa _ b=>.cons a b) h
theorem bD.get(h:bD R vs xs):∀{i:Nat} {x:β},xs[i]?=some x->∃v,vs[i]?=some v/\R v x:=
 bD.rec (motive:=λvs xs _=>∀{i:Nat} {x:β},xs[i]?=some x->∃v,vs[i]?=some v/\R v x) (λe=>nomatch e)
  (λa _ b=>@λi x=>match i with
   | 0=>λe=>⟨_,rfl,ay e▸a⟩
   | _ + 1=>λe=>b e) h
theorem bD.flip(h:bD R vs xs):bD (λx v=>R v x) xs vs:=bD.rec .nil (λa _ b=>.cons a b) h
theorem bD.drop(h:bD R vs xs):∀n:Nat,bD R (vs.drop n) (xs.drop n):=
 bD.rec (motive:=λvs xs _=>∀n:Nat,bD R (vs.drop n) (xs.drop n)) (λn=>by rw [List.drop_nil,List.drop_nil];exact .nil) (λa t b n=>match n with
  | 0=>.cons a t
  | n + 1=>b n) h
theorem bD.take(h:bD R vs xs):∀n:Nat,bD R (vs.take n) (xs.take n):=
 bD.rec (motive:=λvs xs _=>∀n:Nat,bD R (vs.take n) (xs.take n)) (λn=>by rw [List.take_nil,List.take_nil];exact .nil) (λa t b n=>match n with
  | 0=>.nil
  | n + 1=>.cons a (b n)) h
theorem bD.reverse(h:bD R vs xs):bD R vs.reverse xs.reverse:=
 bD.rec (motive:=λvs xs _=>bD R vs.reverse xs.reverse) .nil (λa _ b=>by rw [List.reverse_cons,List.reverse_cons];exact b.append (.cons a .nil)) h
theorem bD.isEmpty(h:bD R vs xs):vs.isEmpty=xs.isEmpty:=bD.rec rfl (λ_ _ _=>rfl) h
theorem bG.length{vs:List (κ'×α)}{xs:List (κ×β)}(h:bG R f vs xs):vs.length=xs.length:=bG.rec rfl (λ_ _ e=>congrArg Nat.succ e) h
theorem bG.isEmpty{vs:List (κ'×α)}{xs:List (κ×β)}(h:bG R f vs xs):vs.isEmpty=xs.isEmpty:=bG.rec rfl (λ_ _ _=>rfl) h
end
noncomputable def EF(h:Heap):Facts:=λb o=>h.get? b=some o
noncomputable abbrev OR(Ω:Cx)(Φ:Facts)(σ:Sg)(h:Heap)(a:Addr)(ob:ak):Prop:=OB Ω (VR Ω Φ σ) (EF h) σ a ob
noncomputable abbrev fT(Ω:Cx)(Φ:Facts)(σ:Sg):=bD (VR Ω Φ σ)
noncomputable def idOf:aa->Option Nat
 | .bw _ id=>some id
 | .af id=>some id
 | _=>none
structure St(Ω:Cx)(Φ Kp:Facts)(σ:Sg)(hp:Hp)(h:Heap):Prop where
 fz:Le Φ (EF h)
 kp:Le Kp (EF h)
 sep:∀b,Φ.has b->Kp.has b->False
 obj:∀l ob,hp.get l=some ob->∃a,σ l=some a/\OR Ω Φ σ h a ob
 apart:∀l ob a,hp.get l=some ob->σ l=some a->¬Φ.has a/\¬Kp.has a
 inj:∀l l' ob ob' a,hp.get l=some ob->hp.get l'=some ob'->σ l=some a->σ l'=some a->l=l'
 fresh:∀l id,idOf l=some id->hp.n<=id->σ l=none
section
variable{Ω:Cx}{Φ Φ' Kp Kp':Facts}{σ σ':Sg}{hp hp':Hp}{h h':Heap}{l:aa}{ob ob':ak}{a:Addr}{v:Value}{x:aa}
theorem OB.there{R:Value->aa->Prop}{At:Facts}(x:OB Ω R At σ a ob):∃o,At a o:=
 OB.rec (motive:=λa _ _=>∃o,At a o) (λh _=>⟨_,h⟩) (λh _=>h.2.imp λ_ h=>h.elim λ_ h=>h.elim λ_ h=>h.1) (λh _=>h.2.imp λ_ h=>h.elim λ_ h=>h.elim λ_ h=>h.1) (λh _=>⟨_,h⟩) (λh _ _ _=>h.imp λ_ h=>h.elim λ_ h=>h.elim λ_ h=>h.1) x
theorem OR.at(x:OR Ω Φ σ h a ob)(k:∀o,h.get? a=some o->h'.get? a=some o):OR Ω Φ σ h' a ob:=x.mono k .refl λ_ _ r=>r
theorem OR.mono(x:OR Ω Φ σ h a ob)(l:Le Φ Φ')(r:ow σ σ'):OR Ω Φ' σ' h a ob:=OB.mono x (λ_ h=>h) r λ_ _=>VR.mono l r
theorem St.on(S:St Ω Φ Kp σ hp h)(hΦ:Le Φ (EF h'))(hK:Le Kp (EF h'))(hl:∀l ob a o,hp.get l=some ob->σ l=some a->h.get? a=some o->h'.get? a=some o):St Ω Φ Kp σ hp h':=
 {S with fz:=hΦ,kp:=hK,obj:=λl ob e=>(S.obj l ob e).imp λa x=>⟨x.1,OR.at x.2 λo ho=>hl l ob a o e x.1 ho⟩}
theorem St.ext(S:St Ω Φ Kp σ hp h)(k:∀b o,h.get? b=some o->h'.get? b=some o):St Ω Φ Kp σ hp h':=
 S.on (λb o e=>k _ _ (S.fz b o e)) (λb o e=>k _ _ (S.kp b o e)) λ_ _ _ _ _ _ e=>k _ _ e
theorem St.extBut(S:St Ω Φ Kp σ hp h){b:Addr}(k:Heap.ExtBut b h h')(h1:¬Φ.has b)(h2:¬Kp.has b)(h3:∀l ob,hp.get l=some ob->σ l≠some b):St Ω Φ Kp σ hp h':=
 S.on (λc o e=>k _ _ (λq=>h1 ⟨o,q▸e⟩) (S.fz c o e)) (λc o e=>k _ _ (λq=>h2 ⟨o,q▸e⟩) (S.kp c o e)) λl ob a o e ea ho=>k _ _ (λq=>h3 l ob e (q▸ea)) ho
@[elab_as_elim]
theorem DI(S:St Ω Φ Kp σ hp h)(R:VR Ω Φ σ v x)(e:bH hp x=some ob)(nl:∀xs,some (.list xs)≠some ob){P:Value->Prop}(p:∀a,OR Ω Φ σ h a ob->P (.ref a)):P v:=by
 have live:∀{a l},σ l=some a->hp.get l=some ob->P (.ref a):=λ{a l} q e=>by
  obtain ⟨b,hb,y⟩:=S.obj l ob e
  exact p _ (ay (hb.symm.trans q)▸y)
 have fro:∀{a ob'},OB Ω (VR Ω Φ σ) Φ σ a ob'->some ob'=some ob->P (.ref a):=λ{a ob'} y e=>p _ (ay e▸y.mono (S.fz _) .refl λ_ _ r=>r)
 exact VR.casesOn (motive_1:=λv x _=>bH hp x=some ob->P v) R aA (λ_=>aA) (λ_ _=>aA) (λ_ _ _=>aA) (λ_ _ _ _=>aA) (λ_ _ _ _ e=>absurd e (nl _)) (λy e=>fro y e) (λy e=>fro y e) (λ_ _=>aA) (λ_ _ _=>aA) (λq e=>live q e) (λq e=>live q e) e
noncomputable def ak.Uo:ak->List aa
 | .list xs=>xs
 | _=>[]
noncomputable def ak.Oh:ak->List (Sx×aa)
 | .sd xs=>xs
 | .ns xs=>xs
 | _=>[]
noncomputable def ak.Sj:ak->List (Int×aa)
 | .eg xs=>xs
 | _=>[]
section
variable{R:Value->aa->Prop}{At:Facts}
theorem OB.c9{xs:List aa}(x:OB Ω R At σ a (.list xs)):∃vs n,At a {cls:=.type "list",data:=.seq vs n}/\bD R vs.toList xs:=
 OB.casesOn (motive:=λa ob _=>ob= .list xs->∃vs n,At a {cls:=.type "list",data:=.seq vs n}/\bD R vs.toList xs) x (λ{_ _ _ ys} h1 h2 e=>⟨_,_,h1,(show ys=xs from congrArg ak.Uo e)▸h2⟩) (λ_ _ e=>nomatch e) (λ_ _ e=>nomatch e) (λ_ _ e=>nomatch e) (λ_ _ _ _ e=>nomatch e) rfl
theorem OB.iS{xs:List (Sx×aa)}(x:OB Ω R At σ a (.sd xs)):∃vs,ot (strKind Ω.prog Ω.w) At a vs/\bG R toS vs xs:=
 OB.casesOn (motive:=λa ob _=>ob= .sd xs->∃vs,ot (strKind Ω.prog Ω.w) At a vs/\bG R toS vs xs) x (λ_ _ e=>nomatch e) (λ{_ _ ys} h1 h2 e=>⟨_,h1,(show ys=xs from congrArg ak.Oh e)▸h2⟩) (λ_ _ e=>nomatch e) (λ_ _ e=>nomatch e) (λ_ _ _ _ e=>nomatch e) rfl
theorem OB.kM{xs:List (Int×aa)}(x:OB Ω R At σ a (.eg xs)):∃vs,ot (intKind Ω.prog Ω.w) At a vs/\bG R id vs xs:=
 OB.casesOn (motive:=λa ob _=>ob= .eg xs->∃vs,ot (intKind Ω.prog Ω.w) At a vs/\bG R id vs xs) x (λ_ _ e=>nomatch e) (λ_ _ e=>nomatch e) (λ{_ _ ys} h1 h2 e=>⟨_,h1,(show ys=xs from congrArg ak.Sj e)▸h2⟩) (λ_ _ e=>nomatch e) (λ_ _ _ _ e=>nomatch e) rfl
end
@[elab_as_elim]
theorem c9(S:St Ω Φ Kp σ hp h)(R:VR Ω Φ σ v x){xs:List aa}(e:bH hp x=some (.list xs)){P:Value->Prop}(p:∀a vs,h.IsList a vs->fT Ω Φ σ vs.toList xs->P (.ref a)):P v:=
 have live:∀{a l},σ l=some a->hp.get l=some (.list xs)->P (.ref a):=λq e=>(S.obj _ _ e).elim λb y=>(ay (y.1.symm.trans q)▸y.2:OR Ω Φ σ h _ (.list xs)).c9.elim λ_ k=>k.elim λ_ k=>p _ _ ⟨_,k.1,rfl,_,rfl⟩ k.2
 VR.casesOn (motive_1:=λv x _=>bH hp x=some (.list xs)->P v) R aA (λ_=>aA) (λ_ _=>aA) (λ_ _ _=>aA) (λ_ _ _ _=>aA) (λ{_ _ _ _ ys} h1 h2 h3 h4 e=>p _ _ ⟨_,S.fz _ _ h1,h2,_,h3⟩ ((show ys=xs from congrArg ak.Uo (ay e))▸h4)) (λ_ e=>nomatch (show some (ak.sd _)=some (ak.list _)from e)) (λ_ e=>nomatch (show some (ak.eg _)=some (ak.list _)from e)) (λ_ _=>aA) (λ_ _ _=>aA) (λq e=>live q e) (λq e=>live q e) e
@[elab_as_elim]
theorem iS(S:St Ω Φ Kp σ hp h)(R:VR Ω Φ σ v x){xs:List (Sx×aa)}(e:bH hp x=some (.sd xs)){P:Value->Prop}(p:∀a vs,a≠sysModules->h.DictOf (strKind Ω.prog Ω.w) a vs->bG (VR Ω Φ σ) toS vs xs->P (.ref a)):P v:=
 DI S R (P:=P) e (λ_ e=>nomatch e) λa y=>y.iS.elim λ_ h=>p _ _ h.1.1 h.1.2 h.2
@[elab_as_elim]
theorem kM(S:St Ω Φ Kp σ hp h)(R:VR Ω Φ σ v x){xs:List (Int×aa)}(e:bH hp x=some (.eg xs)){P:Value->Prop}(p:∀a vs,a≠sysModules->h.DictOf (intKind Ω.prog Ω.w) a vs->bG (VR Ω Φ σ) id vs xs->P (.ref a)):P v:=
 DI S R (P:=P) e (λ_ e=>nomatch e) λa y=>y.kM.elim λ_ h=>p _ _ h.1.1 h.1.2 h.2
end
theorem WL{j i:Nat}:Nat.beq j i=decide (j=i):=by
 cases h:Nat.beq j i with
 | true=>exact (decide_eq_true (jM h)).symm
 | false=>exact (decide_eq_false (Nat.ne_of_beq_eq_false h)).symm
theorem J5{i:Nat}:Nat.beq i i=true:=Nat.beq_refl i
theorem Fs{j i:Nat}(h:j≠i):Nat.beq j i=false:=by
 cases q:Nat.beq j i with
 | true=>exact absurd (jM q) h
 | false=>rfl
theorem Td{j i:Nat}{α:Type}{a b:α}{P:α->Prop}(h1:j=i->P a)(h2:j≠i->P b):P (bif Nat.beq j i then a else b):=by
 cases q:Nat.beq j i with
 | true=>exact h1 (jM q)
 | false=>exact h2 (Nat.ne_of_beq_eq_false q)
theorem cW{D:List (Nat×ak)}{p:Nat×ak}{i:Nat}:d0 (p::D) i=bif Nat.beq p.1 i then some p.2 else d0 D i:=rfl
theorem vh{D:List (Nat×ak)}{i:Nat}{o:ak}:d0 ((i,o)::D) i=some o:=by rw [cW,J5];rfl
theorem IM{D:List (Nat×ak)}{i j:Nat}{o:ak}(h:j≠i):d0 ((j,o)::D) i=d0 D i:=by rw [cW,Fs h];rfl
theorem tA{D:List (Nat×ak)}{p:Nat×ak}{i:Nat}{o:ak}:lK (p::D) i o=bif Nat.beq p.1 i then (p.1,o)::D else p::lK D i o:=rfl
theorem Cb{D:List (Nat×ak)}{p:Nat×ak}{i:Nat}:d4 (p::D) i=bif Nat.beq p.1 i then d4 D i else p::d4 D i:=rfl
theorem kU{i:Nat}{o:ak}:∀{D:List (Nat×ak)} {ob:ak},d0 D i=some ob->d0 (lK D i o) i=some o:=λ{D}=>
 List.rec (motive:=λD=>∀{ob:ak},d0 D i=some ob->d0 (lK D i o) i=some o) (λe=>nomatch e) (λp r k ob e=>by
  rw [tA]
  rw [cW]at e
  cases q:Nat.beq p.1 i with
  | true=>rw [cond_true,cW,q];rfl
  | false=>rw [q]at e;rw [cond_false,cW,q];exact k e) D
theorem vi{i k:Nat}{o:ak}(e:i≠k):∀{D:List (Nat×ak)},d0 (lK D i o) k=d0 D k:=λ{D}=>
 List.rec (motive:=λD=>d0 (lK D i o) k=d0 D k) rfl (λp r ih=>by
  rw [tA]
  cases q:Nat.beq p.1 i with
  | true=>rw [cond_true,cW,cW,Fs (jM q▸e)];rfl
  | false=>rw [cond_false,cW,cW,ih]) D
theorem tC{i k:Nat}{o:ak}:∀{D:List (Nat×ak)},d0 (d4 D i) k=some o->i≠k/\d0 D k=some o:=λ{D}=>
 List.rec (motive:=λD=>d0 (d4 D i) k=some o->i≠k/\d0 D k=some o) (λe=>nomatch e) (λp r ih e=>by
  rw [Cb]at e
  cases q:Nat.beq p.1 i with
  | true=>rw [q]at e;exact ⟨(ih e).1,by rw [cW,Fs (jM q▸(ih e).1)];exact (ih e).2⟩
  | false=>
   rw [q,cond_false,cW]at e
   rw [cW]
   cases q2:Nat.beq p.1 k with
   | true=>rw [q2]at e;exact ⟨(λx=>by rw [x,q2]at q;cases q),e⟩
   | false=>rw [q2]at e;exact ih e) D
theorem Ie{o:Option (Option (Nat×ak))}{id:Nat}{ob:ak}(h:pI o id=some ob):o=some (some (id,ob)):=by
 rcases o with _ | _ | ⟨j,p⟩
 ·cases h
 ·cases h
 ·have h:(bif Nat.beq j id then some p else none)=some ob:=h
  cases q:Nat.beq j id with
  | true=>rw [q]at h;cases h;rw [jM q]
  | false=>rw [q]at h;cases h
theorem iB{id:Nat}{ob:ak}:pI (some (some (id,ob))) id=some ob:=by
 show (bif Nat.beq id id then some ob else none)=_;rw [J5];rfl
theorem pN{α:Type}{l:List α}{k k':Nat}{a:α}:(l.set k a)[k']?=if k=k'/\k < l.length then some a else l[k']?:=by
 by_cases h:k=k'
 ·subst h
  by_cases q:k < l.length
  ·rw [List.getElem?_set_self q,if_pos ⟨rfl,q⟩]
  ·rw [if_neg λx=>q x.2,List.getElem?_eq_none (by rw [List.length_set];exact Nat.le_of_not_lt q),List.getElem?_eq_none (Nat.le_of_not_lt q)]
 ·rw [List.getElem?_set_ne h,if_neg λx=>h x.1]
theorem js{hp:Hp}{l:aa}{ob:ak}(h:hp.get l=some ob){P:aa->Prop}(p1:∀k id,hp.G[k]?=some (some (id,ob))->P (.bw k id))(p2:∀id,d0 hp.D id=some ob->P (.af id)):P l:=by
 cases l with
 | bw k id=>exact p1 k id (Ie h)
 | af id=>exact p2 id h
 | _=>cases h
theorem Hp.Ih{hp:Hp}{l:aa}{ob o:ak}(h:hp.get l=some ob):(hp.put l o).get l=some o:=
 js (P:=λl=>(hp.put l o).get l=some o) h (λk id e=>by
  show pI (hp.G.set k (some (id,o)))[k]? id=_
  rw [pN,if_pos ⟨rfl,(List.getElem?_eq_some_iff.mp e).1⟩];exact iB) λid e=>kU e
theorem Hp.uM{hp:Hp}{l l':aa}{ob o o':ak}(h:hp.get l=some ob)(e:(hp.put l o).get l'=some o'):(l=l'/\o=o')\/(l≠l'/\hp.get l'=some o'):=
 js (P:=λl=>(hp.put l o).get l'=some o'->(l=l'/\o=o')\/(l≠l'/\hp.get l'=some o')) h (λk id q e=>js (P:=λl'=>(aa.bw k id=l'/\o=o')\/(aa.bw k id≠l'/\hp.get l'=some o')) e (λk' id' e=>by
   have e:(hp.G.set k (some (id,o)))[k']?=_:=e
   rw [pN]at e
   by_cases c:k=k'/\k < hp.G.length
   ·rw [if_pos c]at e
    have e:=Prod.mk.inj (ay (ay e))
    exact .inl ⟨by rw [c.1,e.1],e.2⟩
   ·rw [if_neg c]at e
    exact .inr ⟨λx=>by cases x;exact c ⟨rfl,(List.getElem?_eq_some_iff.mp q).1⟩,by show pI hp.G[k']? id'=_;rw [e];exact iB⟩) λid' e=>.inr ⟨λx=>(nomatch x),e⟩)
  (λid q e=>js (P:=λl'=>(aa.af id=l'/\o=o')\/(aa.af id≠l'/\hp.get l'=some o')) e (λk' id' e=>.inr ⟨λx=>(nomatch x),by show pI hp.G[k']? id'=_;rw [show hp.G[k']?=_ from e];exact iB⟩) λid' e=>by
   have e:d0 (lK hp.D id o) id'=some o':=e
   by_cases c:id=id'
   ·subst c;rw [kU q]at e;cases e;exact .inl ⟨rfl,rfl⟩
   ·rw [vi c]at e;exact .inr ⟨λx=>by cases x;exact c rfl,e⟩) e
theorem Hp.zJ{hp:Hp}{l:aa}{o:ak}:(hp.put l o).n=hp.n:=by cases l <;> rfl
theorem Hp.QI{hp:Hp}{l:aa}:(hp.del l).n=hp.n:=by cases l <;> rfl
theorem Hp.gM{hp:Hp}{l l':aa}{o:ak}(h:(hp.del l).get l'=some o):hp.get l'=some o/\(l≠l'\/hp.get l=none):=by
 cases l with
 | bw k id=>
  refine js (P:=λl'=>hp.get l'=some o/\(aa.bw k id≠l'\/hp.get (.bw k id)=none)) h (λk' id' e=>?_) λid' e=>⟨e,.inl λx=>(nomatch x)⟩
  have e:(hp.G.set k none)[k']?=some (some (id',o)):=e
  rw [pN]at e
  split at e
  ·cases e
  ·rename_i c
   refine ⟨by show pI hp.G[k']? id'=_;rw [e];exact iB,.inl λx=>?_⟩
   cases x;exact c ⟨rfl,(List.getElem?_eq_some_iff.mp e).1⟩
 | af id=>exact js (P:=λl'=>hp.get l'=some o/\(aa.af id≠l'\/hp.get (.af id)=none)) h (λk' id' e=>⟨by show pI hp.G[k']? id'=_;rw [show hp.G[k']?=_ from e];exact iB,.inl λx=>(nomatch x)⟩) λid' e=>⟨(tC e).2,.inl λx=>by cases x;exact (tC e).1 rfl⟩
 | _=>exact ⟨h,.inr rfl⟩
noncomputable def Facts.more(Φ:Facts)(h:Heap)(as:List Addr):Facts:=λb o=>Φ b o\/(b∈as/\h.get? b=some o)
open Classical in
noncomputable def Sg.upd(σ:Sg)(l:aa)(a:Addr):Sg:=λl'=>if l'=l then some a else σ l'
section
variable{Ω:Cx}{Φ Φ' Kp Kp':Facts}{σ σ':Sg}{hp hp':Hp}{h h':Heap}{l:aa}{ob ob':ak}{a:Addr}{v:Value}{x:aa}
theorem St.upd(S:St Ω Φ Kp σ hp h)(hl:hp.get l=some ob)(ha:σ l=some a)(k:Heap.SameBut a h h')(x:OR Ω Φ σ h' a ob'):St Ω Φ Kp σ (hp.put l ob') h':=
 have A:=S.apart l ob a hl ha
 have live:∀{l' o},(hp.put l ob').get l'=some o->∃o',hp.get l'=some o':=λe=>(Hp.uM hl e).elim (λq=>⟨_,q.1▸hl⟩) λq=>⟨_,q.2⟩
 {fz:=λb o e=>(k.2 b λq=>A.1 ⟨o,q▸e⟩).trans (S.fz b o e)
  kp:=λb o e=>(k.2 b λq=>A.2 ⟨o,q▸e⟩).trans (S.kp b o e)
  sep:=S.sep
  obj:=λl' o e=>(Hp.uM hl e).elim (λq=>⟨a,q.1▸ha,q.2▸x⟩) λq=>(S.obj l' o q.2).imp λb y=>⟨y.1,OR.at y.2 λo' ho=>(k.2 b λz=>q.1 (S.inj _ _ _ _ _ hl q.2 ha (z▸y.1))).trans ho⟩
  apart:=λl' o b e eb=>(live e).elim λo' e=>S.apart l' o' b e eb
  inj:=λl1 l2 o1 o2 b e1 e2=>(live e1).elim λ_ e1=>(live e2).elim λ_ e2=>S.inj _ _ _ _ _ e1 e2
  fresh:=λl' id e n=>S.fresh l' id e (Hp.zJ▸n)}
theorem St.del(S:St Ω Φ Kp σ hp h)(l:aa):St Ω Φ Kp σ (hp.del l) h:=
 {S with
  obj:=λl' ob e=>S.obj l' ob (Hp.gM e).1
  apart:=λl' ob a e=>S.apart l' ob a (Hp.gM e).1
  inj:=λl1 l2 o1 o2 a e1 e2=>S.inj l1 l2 o1 o2 a (Hp.gM e1).1 (Hp.gM e2).1
  fresh:=λl' id e n=>S.fresh l' id e (Hp.QI▸n)}
theorem Facts.cX{as:List Addr}:Le Φ (Φ.more h as):=λ_ _ e=>.inl e
noncomputable def Un(Φ Kp:Facts)(σ:Sg)(hp:Hp)(a:Addr):Prop:=¬Φ.has a/\¬Kp.has a/\∀l ob,hp.get l=some ob->σ l≠some a
theorem St.more(S:St Ω Φ Kp σ hp h)(as:List Addr)(h1:∀b∈as,¬Kp.has b)(h2:∀b∈as,∀l ob,hp.get l=some ob->σ l≠some b):St Ω (Φ.more h as) Kp σ hp h:=
 {S with
  fz:=λb o e=>e.elim (S.fz b o) (·.2)
  sep:=λb x k=>x.elim λo e=>e.elim (λe=>S.sep b ⟨o,e⟩ k) λe=>h1 b e.1 k
  obj:=λl ob e=>(S.obj l ob e).imp λa x=>⟨x.1,OR.mono x.2 Facts.cX .refl⟩
  apart:=λl ob a e ea=>⟨λx=>x.elim λo q=>q.elim (λq=>(S.apart l ob a e ea).1 ⟨o,q⟩) λq=>h2 a q.1 l ob e ea,(S.apart l ob a e ea).2⟩}
theorem St.zR(S:St Ω Φ Kp σ hp h)(N:Un Φ Kp σ hp a):St Ω (Φ.more h [a]) Kp σ hp h:=S.more [a] (λb hb=>List.mem_singleton.mp hb▸N.2.1) λb hb=>List.mem_singleton.mp hb▸N.2.2
theorem c8{α:Type}{o:Option α}{x:α}(hn:o=none)(e:o=some x):False:=nomatch hn.symm.trans e
theorem St.ff(S:St Ω Φ Kp σ hp h)(hn:h.get? a=none):Un Φ Kp σ hp a:=
 ⟨λx=>x.elim λo e=>c8 hn (S.fz _ _ e),λx=>x.elim λo e=>c8 hn (S.kp _ _ e),λl ob e ea=>(S.obj l ob e).elim λb x=>x.2.there.elim λo ho=>c8 hn (ay (x.1.symm.trans ea)▸ho)⟩
theorem Sg.jY:σ.upd l a l=some a:=if_pos rfl
theorem Sg.xB{l':aa}(e:l'≠l):σ.upd l a l'=σ l':=if_neg e
theorem ow.upd(e:σ l=none):ow σ (σ.upd l a):=λl' b hb=>(if_neg λq=>c8 e (q▸hb)).trans hb
theorem Sg.tK{l':aa}{b:Addr}{P:Prop}(e:σ.upd l a l'=some b)(p:l'=l->a=b->P)(q:l'≠l->σ l'=some b->P):P:=by
 by_cases c:l'=l
 ·exact p c (ay ((if_pos c:σ.upd l a l'=some a).symm.trans e))
 ·exact q c ((Sg.xB c).symm.trans e)
theorem St.zQ(S:St Ω Φ Kp σ hp h)(N:Un Φ Kp σ hp a)(hl:idOf l=some hp.n)
  (h1:hp'.get l=some ob) (h2:∀l' o,l'≠l->hp'.get l'=some o->hp.get l'=some o) (h3:hp'.n=hp.n + 1) (y:OR Ω Φ (σ.upd l a) h a ob):St Ω Φ Kp (σ.upd l a) hp' h:=
 have f:σ l=none:=S.fresh l _ hl (aO _)
 {S with
  obj:=λl' o e=>by
   by_cases q:l'=l
   ·exact ⟨a,q▸Sg.jY,ay (h1.symm.trans (q▸e))▸y⟩
   ·exact (S.obj l' o (h2 l' o q e)).imp λb z=>⟨(Sg.xB q).trans z.1,OR.mono z.2 .refl (ow.upd f)⟩
  apart:=λl' o b e eb=>Sg.tK eb (λ_ q=>q▸⟨N.1,N.2.1⟩) λq eb=>S.apart l' o b (h2 l' o q e) eb
  inj:=λl1 l2 o1 o2 b e1 e2 b1 b2=>Sg.tK b1 (λq1 r1=>Sg.tK b2 (λq2 _=>q1.trans q2.symm) λq2 b2=>absurd (r1▸b2) (N.2.2 _ _ (h2 _ _ q2 e2)))
   λq1 b1=>Sg.tK b2 (λq2 r2=>absurd (r2▸b1) (N.2.2 _ _ (h2 _ _ q1 e1))) λq2 b2=>S.inj _ _ _ _ _ (h2 _ _ q1 e1) (h2 _ _ q2 e2) b1 b2
  fresh:=λl' id e n=>
   have n:hp.n + 1<=id:=h3▸n
   have q:l'≠l:=λq=>Nat.lt_irrefl _ (ay (hl.symm.trans (q▸e))▸n)
   (Sg.xB q).trans (S.fresh l' id e (Nat.le_of_succ_le n))}
theorem Hp.oY{i:Nat}{n:Nat}{l':aa}{o:ak}(q:l'≠ .af i)(e:Hp.get ⟨hp.G,(i,ob)::hp.D,n⟩ l'=some o):hp.get l'=some o:=
 js (P:=λl'=>l'≠ .af i->hp.get l'=some o) e (λk id e _=>show pI hp.G[k]? id=_ from (show hp.G[k]?=_ from e)▸iB) (λid e q=>(IM λc=>q (congrArg aa.af c.symm)).symm.trans e) q
theorem Hp.EL{k i:Nat}{n:Nat}{l':aa}{o:ak}(q:l'≠ .bw k i)(e:Hp.get ⟨hp.G.set k (some (i,ob)),hp.D,n⟩ l'=some o):hp.get l'=some o:=
 js (P:=λl'=>l'≠ .bw k i->hp.get l'=some o) e (λk' id e q=>by
  have e:(hp.G.set k (some (i,ob)))[k']?=_:=e
  rw [pN]at e
  by_cases c:k=k'/\k < hp.G.length
  ·rw [if_pos c]at e
   exact absurd (by rw [c.1,(Prod.mk.inj (ay (ay e))).1]) q
  ·rw [if_neg c]at e
   exact show pI hp.G[k']? id=_ from e▸iB) (λid e _=>e) q
theorem OR.freeze(y:OR Ω Φ σ h a ob)(e:ob.frozen=some x):VR Ω (Φ.more h [a]) σ (.ref a) x:=by
 have z:OB Ω (VR Ω (Φ.more h [a]) σ) (Φ.more h [a]) σ a ob:=OB.mono y (λo q=>.inr ⟨jN _,q⟩) .refl λ_ _=>VR.mono Facts.cX .refl
 cases ob with
 | list _=>cases e;exact z.c9.elim λ_ k=>k.elim λ_ k=>.list k.1 rfl rfl k.2
 | sd _=>cases e;exact .sd z
 | eg _=>cases e;exact .eg z
 | _=>cases e
theorem EO{b:Bool}{α:Type}{o:Option α}{x:α}(e:(bif b then o else none)=some x):b=true/\o=some x:=by
 cases b with
 | true=>exact ⟨rfl,e⟩
 | false=>cases e
theorem St.make(S:St Ω Φ Kp σ hp h)(N:Un Φ Kp σ hp a)(y:OR Ω Φ σ h a ob){m:Mode}(e:ju m ob hp=some (x,hp')):∃Φ' σ',Le Φ Φ'/\ow σ σ'/\St Ω Φ' Kp σ' hp' h/\VR Ω Φ' σ' (.ref a) x:=by
 cases m with
 | f=>
  have e:hY ob.frozen aj hp=some (x,hp'):=e
  cases q:ob.frozen with
  | none=>rw [q]at e;cases e
  | some u=>
   rw [q]at e
   exact jP (P:=λx hp'=>∃Φ' σ',Le Φ Φ'/\ow σ σ'/\St Ω Φ' Kp σ' hp' h/\VR Ω Φ' σ' (.ref a) x) e ⟨_,_,Facts.cX,.refl,S.zR N,y.freeze q⟩
 | d=>
  have f:σ (.af hp.n)=none:=S.fresh _ _ rfl (aO _)
  exact jP (P:=λx hp'=>∃Φ' σ',Le Φ Φ'/\ow σ σ'/\St Ω Φ' Kp σ' hp' h/\VR Ω Φ' σ' (.ref a) x) e ⟨_,_,.refl,ow.upd f,S.zQ N rfl vh (λl' o q e=>Hp.oY q e) rfl (y.mono .refl (ow.upd f)),.af Sg.jY⟩
 | g i=>
  obtain ⟨hlt,e⟩:=EO e
  have f:σ (.bw i hp.n)=none:=S.fresh _ _ rfl (aO _)
  exact jP (P:=λx hp'=>∃Φ' σ',Le Φ Φ'/\ow σ σ'/\St Ω Φ' Kp σ' hp' h/\VR Ω Φ' σ' (.ref a) x) e ⟨_,_,.refl,ow.upd f,S.zQ N rfl (show pI (hp.G.set i _)[i]? hp.n=_ from (List.getElem?_set_self (bY hlt))▸iB) (λl' o q e=>Hp.EL q e) rfl (y.mono .refl (ow.upd f)),.bw Sg.jY⟩
end
structure Bs(Ω:Cx):Prop where
 lG:Ω.K.In Ω.h0
 nolimit:Ω.h0.NoLimit
 glob:∃mg,Ω.h0.Ns mainGlobals mg
 U7:∃mb,Ω.h0.Ns builtinsNs mb/\∀x:PySem.Str,x≠"__name__"->mb x=bootBuiltins x
 sys:∃a o,sysModules < a/\Ω.h0.get? a=some o
structure Wl(Ω:Cx)(Kp:Facts)(hp:Hp)(s:Shared)where
 Φ:Facts
 σ:Sg
 B:Bs Ω
 g:Le (EF Ω.h0) Φ
 S:St Ω Φ Kp σ hp s.heap
noncomputable def rM(s s1:Shared):Prop:=∃h' tk,s1={s with heap:=h',toks:=tk}
theorem rM.trans{s s1 s2:Shared}(x:rM s s1)(y:rM s1 s2):rM s s2:=by
 obtain ⟨h1,t1,rfl⟩:=x;obtain ⟨h2,t2,rfl⟩:=y;exact ⟨h2,t2,rfl⟩
theorem rM.refl:rM s s:=⟨s.heap,s.toks,rfl⟩
section
variable{Ω:Cx}{Kp:Facts}{hp hp':Hp}{s s':Shared}{A:Around}{α β γ δ:Type}{v u:Value}{x y z:aa}
structure Wl.le(t:Wl Ω Kp hp s)(t':Wl Ω Kp hp' s'):Prop where
 d:rM s s'
 l:Le t.Φ t'.Φ
 r:ow t.σ t'.σ
theorem Wl.le.trans{hp2 s2}{t:Wl Ω Kp hp s}{t':Wl Ω Kp hp' s'}{t2:Wl Ω Kp hp2 s2}(a:t.le t')(b:t'.le t2):t.le t2:=⟨a.d.trans b.d,a.l.trans b.l,a.r.trans b.r⟩
noncomputable abbrev Rl(β α:Type):=Facts->Sg->β->α->Prop
noncomputable abbrev Wl.V(t:Wl Ω Kp hp s)(v:Value)(x:aa):Prop:=VR Ω t.Φ t.σ v x
noncomputable abbrev Tr(β:Type):=(Value->Shared->Prop)->(β->Shared->Prop)->Shared->Prop
noncomputable abbrev Wp(Ω:Cx)(A:Around)(p:Sem β):Tr β:=λE Q s=>wpAny (model Ω.prog Ω.w) A p Q E s
noncomputable def Tr.bind(w:Tr β)(f:β->Tr δ):Tr δ:=λE Q s=>w E (λv s1=>f v E Q s1) s
noncomputable def ae(t:Wl Ω Kp hp s)(m:HM α)(w:Tr β)(R:Rl β α):Prop:=
 ∀x hp',m hp=some (x,hp')->∀(E:Value->Shared->Prop) (Q:β->Shared->Prop),(∀v s' (t':Wl Ω Kp hp' s'),t.le t'->R t'.Φ t'.σ v x->Q v s')->w E Q s
variable{t:Wl Ω Kp hp s}{m:HM α}{w w':Tr β}{R:Rl β α}{R':Rl δ γ}
theorem ae.fin{a:α}(h:∀(E:Value->Shared->Prop) (Q:β->Shared->Prop),(∀v s' (t':Wl Ω Kp hp s'),t.le t'->R t'.Φ t'.σ v a->Q v s')->w E Q s):ae t (aj a) w R:=
 λx hp' e E Q q=>h E Q λv s' t' l r=>jP (P:=λx hp'=>(∀v s' (t':Wl Ω Kp hp' s'),t.le t'->R t'.Φ t'.σ v x->Q v s')->Q v s') e (λq=>q v s' t' l r) q
theorem ae.bE{k:α->HM γ}{f:β->Tr δ}(h:ae t m w R)(h2:∀{hp1 s1} x v (t1:Wl Ω Kp hp1 s1),t.le t1->R t1.Φ t1.σ v x->ae t1 (k x) (f v) R'):ae t (aL m k) (w.bind f) R':=
 λx hp' e E Q q=>ed e λa h1 e1 e2=>h a h1 e1 E _ λv s1 t1 l1 r1=>h2 a v t1 l1 r1 x hp' e2 E Q λu s2 t2 l2 r2=>q u s2 t2 (l1.trans l2) r2
theorem ae.wp(h:∀{E Q},w' E Q s->w E Q s)(k:ae t m w' R):ae t m w R:=λx hp' e E Q q=>h (k x hp' e E Q q)
theorem ae.no:ae t no w R:=λx hp' e=>aA e
theorem ae.op{o:Option γ}{k:γ->HM α}(h:∀a,o=some a->ae t (k a) w R):ae t (hY o k) w R:=
 match o,h with
 | none,_=>ae.no
 | some a,h=>h a rfl
theorem ae.gd{b:Bool}(h:b=true->ae t m w R):ae t (gd b m) w R:=
 match b,h with
 | true,h=>h rfl
 | false,_=>ae.no
theorem Jh{q:Hp->Option α}{h:Hp}{r:α×Hp}(e:lO q h=some r):∃a,q h=some a/\some (a,h)=some r:=by
 unfold lO at e
 cases c:q h with
 | none=>rw [c]at e;cases e
 | some a=>rw [c]at e;exact ⟨a,rfl,e⟩
theorem ae.rd{q:Hp->Option α}(h:∀a,q hp=some a->ae t (aj a) w R):ae t (lO q) w R:=λx hp' e=>(Jh e).elim λa c=>h a c.1 x hp' c.2
theorem ae.gu{f:Int->HM α}{d:HM α}(h:∀i,x= .int i->ae t (f i) w R)(h2:ae t d w R):ae t (x.gu f d) w R:=by
 cases x <;> first | exact h2 | exact h _ rfl
theorem ae.iH{f:Sx->HM α}{d:HM α}(h:∀i,x= .str i->ae t (f i) w R)(h2:ae t d w R):ae t (x.iH f d) w R:=by
 cases x <;> first | exact h2 | exact h _ rfl
theorem ae.vS{f:List aa->HM α}{d:HM α}(h:∀i,x= .tup i->ae t (f i) w R)(h2:ae t d w R):ae t (x.vS f d) w R:=by
 cases x <;> first | exact h2 | exact h _ rfl
theorem ae.pQ{f:List aa->HM α}{d:HM α}(h:∀i,x= .list i->ae t (f i) w R)(h2:ae t d w R):ae t (x.pQ f d) w R:=by
 cases x <;> first | exact h2 | exact h _ rfl
theorem Cc(V:t.V v x)(V':t.V u y){i j:Int}(ex:x= .int i)(ey:y= .int j):ae t (aj (.int (i + j))) (Wp Ω A (binaryOp .Add v u)) (VR Ω):=
 V.cQ (P:=λv=>ae t (aj (.int (i + j))) (Wp Ω A (binaryOp .Add v u)) (VR Ω)) ex λtk=>V'.cQ (P:=λu=>ae t (aj (.int (i + j))) (Wp Ω A (binaryOp .Add (.int i tk) u)) (VR Ω)) ey λtk'=>ae.fin λE Q q=>
  PySem.P.add_int (q _ _ ⟨t.Φ,t.σ,t.B,t.g,t.S⟩ ⟨⟨_,_,rfl⟩,.refl,.refl⟩ (.int _ _))
end
section
variable{Ω:Cx}{Φ Φ' Kp:Facts}{σ σ':Sg}{hp hp':Hp}{s s':Shared}{A:Around}{v u:Value}{x y z:aa}{α β:Type}{t:Wl Ω Kp hp s}{w:Tr β}{R:Rl β α}
noncomputable def Wl.tk(t:Wl Ω Kp hp s)(k:Nat):Wl Ω Kp hp {s with toks:=k}:=⟨t.Φ,t.σ,t.B,t.g,t.S⟩
theorem Wl.D7{k:Nat}:t.le (t.tk k):=⟨⟨s.heap,k,rfl⟩,.refl,.refl⟩
theorem ae.val{a:α}(h:∀{E:Value->Shared->Prop} {Q:β->Shared->Prop},(∀v k,R t.Φ t.σ v a->Q v {s with toks:=k})->w E Q s):ae t (aj a) w R:=
 ae.fin λE Q q=>h λv k r=>q v _ (t.tk k) Wl.D7 r
noncomputable abbrev RB:Rl Bool Bool:=λ_ _ b c=>b=c
@[elab_as_elim]
theorem VR.uY(V:VR Ω Φ σ v x){b:Bool}(e:x= .bool b){P:Value->Prop}(p:P (.bool b)):P v:=by
 subst e;cases V;exact p
@[elab_as_elim]
theorem VR.nu(V:VR Ω Φ σ v x)(e:x= .none){P:Value->Prop}(p:P .none):P v:=by
 subst e;cases V;exact p
@[elab_as_elim]
theorem VR.dR(V:VR Ω Φ σ v x){i:Sx}(e:x= .str i){P:Value->Prop}(p:∀t,Cs i->P (.str (toS i) t)):P v:=by
 subst e;cases V with | str _ t a=>exact p t a
@[elab_as_elim]
theorem mf(S:St Ω Φ Kp σ hp s.heap)(V:VR Ω Φ σ v x){xs:List aa}(e:x= .tup xs){P:Value->Prop}(p:∀a vs,s.heap.IsTuple a vs->fT Ω Φ σ vs.toList xs->P (.ref a)):P v:=by
 subst e;cases V with | tup h1 h2 h3 h4=>exact p _ _ ⟨_,S.fz _ _ h1,h2,_,h3⟩ h4
theorem wb{n:Nat}(h:n < LF):(n:Int) < 2 ^ 63:=Int.lt_trans (Int.ofNat_lt.mpr h) (by decide)
theorem bX{vs:Array Value}{n:Nat}(e:vs.toList.length=n):vs.size=n:=e
theorem Az{vs:Array Value}{b:Bool}(e:vs.toList.isEmpty=b):vs.isEmpty=b:=(Array.isEmpty_toList).symm.trans e
theorem UK{s:Sx}:(toS s).length=s.length:=rfl
theorem pM(V:t.V v x):ae t (dY x) (Wp Ω A (truthy v)) RB:=ae.rd λb e=>by
 refine t9 e (λex e=>?_) λe=>DG e (λc ex e=>?_) λe=>fQ e (λi ex e=>?_) λe=>j9 e (λi ex e=>?_) λe=>mv e (λxs ex e=>?_) λe=>vU e (λxs eo e=>?_) λe=>oE e (λxs eo e=>?_) λe=>qv e (λxs eo e=>?_) aA
 ·exact V.nu (P:=λv=>ae t (aj b) (Wp Ω A (truthy v)) RB) ex (ae.val λq=>truthy_none (q _ _ (ay e)))
 ·exact V.uY (P:=λv=>ae t (aj b) (Wp Ω A (truthy v)) RB) ex (ae.val λq=>wpAny_truthy_bool (q _ _ (ay e)))
 ·exact V.cQ (P:=λv=>ae t (aj b) (Wp Ω A (truthy v)) RB) ex λtk=>(ae.val λq=>truthy_int (q _ _ (ay e)))
 ·exact iE e λl e=>V.dR (P:=λv=>ae t (aj b) (Wp Ω A (truthy v)) RB) ex λtk a=>ae.val λq=>PySem.P.truthy_str (Int.not_le.mpr (wb l)) (q _ _ (by rw [<-e];cases i <;> rfl))
 ·exact iE e λl e=>mf t.S V (P:=λv=>ae t (aj b) (Wp Ω A (truthy v)) RB) ex λa vs h1 h2=>ae.val λq=>truthy_tuple h1 (wb (bX h2.length▸l)) (q _ _ (by rw [Az h2.isEmpty];exact e))
 ·exact iE e λl e=>c9 t.S V (P:=λv=>ae t (aj b) (Wp Ω A (truthy v)) RB) eo λa vs h1 h2=>ae.val λq=>wpAny_truthy_list h1 (wb (bX h2.length▸l)) (q _ _ (by rw [Az h2.isEmpty];exact e))
 ·exact iE e λl e=>iS t.S V (P:=λv=>ae t (aj b) (Wp Ω A (truthy v)) RB) eo λa vs hn h1 h2=>ae.val λq=>wpAny_truthy_dict (beq_false_of_ne hn) h1 (wb (h2.length▸l)) (q _ _ (by rw [h2.isEmpty];exact e))
 ·exact iE e λl e=>kM t.S V (P:=λv=>ae t (aj b) (Wp Ω A (truthy v)) RB) eo λa vs hn h1 h2=>ae.val λq=>wpAny_truthy_dict (beq_false_of_ne hn) h1 (wb (h2.length▸l)) (q _ _ (by rw [h2.isEmpty];exact e))
end
section
variable{Ω:Cx}{Φ Φ' Kp:Facts}{σ σ':Sg}{hp hp':Hp}{s s':Shared}{A:Around}{v u:Value}{x y z:aa}{α β:Type}{t:Wl Ω Kp hp s}{w:Tr β}{R:Rl β α}
theorem pZ{f:Int->Int->Option Int}{op:Operator}(V:t.V v x)(V':t.V u y)
  (h:∀{i j k:Int} {tk tk':Tok} {E:Value->Shared->Prop} {Q:Value->Shared->Prop},f i j=some k->Q (.int k s.toks) {s with toks:=s.toks + 1}->wpAny (model Ω.prog Ω.w) A (binaryOp op (.int i tk) (.int j tk')) Q E s):
  ae t (hY (arith f x y) aj) (Wp Ω A (binaryOp op v u)) (VR Ω):=ae.op λz e=>
 fQ e (λi ex e=>fQ e (λj ey e=>V.cQ (P:=λv=>ae t (aj z) (Wp Ω A (binaryOp op v u)) (VR Ω)) ex λtk=>V'.cQ (P:=λu=>ae t (aj z) (Wp Ω A (binaryOp op (.int i tk) u)) (VR Ω)) ey λtk'=>
  (Option.map_eq_some_iff.mp e).elim λk c=>ae.val λq=>h c.1 (q _ _ (c.2▸ .int _ _))) aA) aA
theorem Ov(V:t.V v x)(V':t.V u y):ae t (hY (arith (λx y=>some (x - y)) x y) aj) (Wp Ω A (binaryOp .Sub v u)) (VR Ω):=
 pZ V V' λe h=>PySem.P.sub_int (ay e▸h)
theorem kH{c:Prop} [Decidable c]{o:Option α}{r:α}{P:Prop}(e:(if c then o else none)=some r)(p:c->o=some r->P):P:=by
 by_cases h:c
 ·exact p h ((if_pos h).symm.trans e)
 ·exact aA ((if_neg h).symm.trans e)
theorem AR{y:Int}(h0:0 < y)(h1:y < 1073741824):y.natAbs.log2 < 9000:=by
 have:y.natAbs < 2 ^ 30:=by omega
 have:=(Nat.log2_lt (by omega:y.natAbs≠0)).mpr this
 omega
theorem Px(V:t.V v x)(V':t.V u y):ae t (hY (arith eZ x y) aj) (Wp Ω A (binaryOp .Mod v u)) (VR Ω):=
 pZ V V' λe h=>kH e λc e=>PyProof.Rows.mod_int' (Int.ne_of_gt c.1) (by rw [Int.fmod_eq_emod_of_nonneg _ (Int.le_of_lt c.1),ay e];exact h)
theorem My(V:t.V v x)(V':t.V u y):ae t (hY (arith E6 x y) aj) (Wp Ω A (binaryOp .FloorDiv v u)) (VR Ω):=
 pZ V V' λe h=>kH e λc e=>PyProof.Rows.floordiv_int (Int.ne_of_gt c.1) (by rw [Int.fdiv_eq_ediv_of_nonneg _ (Int.le_of_lt c.1),ay e];exact h) (.inl (PyProof.noPylong_of_log2 (AR c.1 c.2)))
theorem Nr{i j:Int}(c:0<=i/\0<=j):Builtin.bitAnd i j=((i.toNat&&& j.toNat:Nat):Int):=by unfold Builtin.bitAnd;simp [c.1,c.2]
theorem Nf(V:t.V v x)(V':t.V u y):ae t (hY (arith Nu x y) aj) (Wp Ω A (binaryOp .BitAnd v u)) (VR Ω):=
 pZ V V' λe h=>kH e λc e=>PyProof.Rows.and_int (by rw [Nr c,ay e];exact h)
theorem Pu{i:Int}(V:t.V v x)(ex:x= .int i):ae t (aj (.int (-i))) (Wp Ω A (unaryOp .USub v)) (VR Ω):=
 V.cQ (P:=λv=>ae t (aj (.int (-i))) (Wp Ω A (unaryOp .USub v)) (VR Ω)) ex λtk=>ae.val λq=>PyProof.Rows.neg_int (q _ _ (.int _ _))
end
section
variable{Ω:Cx}{Φ Φ' Kp:Facts}{σ σ':Sg}{hp hp':Hp}{s s':Shared}{A:Around}{v u:Value}{x y z:aa}{α β:Type}{t:Wl Ω Kp hp s}{w:Tr Value}{R:Rl β α}
theorem dc(h:Heap):h.get? h.objs.size=none:=by
 cases q:h.get? h.objs.size with
 | none=>rfl
 | some o=>exact absurd (Heap.lt_size q) (Nat.lt_irrefl _)
theorem Wl.new(t:Wl Ω Kp hp s):Un t.Φ Kp t.σ hp s.heap.objs.size:=t.S.ff (dc _)
theorem Wl.pushS(t:Wl Ω Kp hp s)(o:Obj):St Ω t.Φ Kp t.σ hp (s.heap.push o):=t.S.ext λb o' e=>Heap.get?_push_of_some _ e
theorem m8{o:Obj}{h:Heap}(c:o.isFreed=false:=by rfl):(h.push o).get? h.objs.size=some o:=Heap.get?_push_size _ c
theorem ae.new{o:Obj}{ob:ak}{m:Mode}(y:OR Ω t.Φ t.σ (s.heap.push o) s.heap.objs.size ob)(h:∀{E:Value->Shared->Prop} {Q:Value->Shared->Prop},(∀k,Q (.ref s.heap.objs.size) {s with heap:=s.heap.push o,toks:=k})->w E Q s):ae t (ju m ob) w (VR Ω):=
 λx hp' e E Q q=>(St.make (t.pushS o) t.new y e).elim λΦ' c=>c.elim λσ' c=>h λk=>q _ _ ⟨Φ',σ',t.B,t.g.trans c.1,c.2.2.1⟩ ⟨⟨_,k,rfl⟩,c.1,c.2.1⟩ c.2.2.2
theorem ae.He{vs:Array Value}{xs:List aa}{n:Nat}{m:Mode}(V:fT Ω t.Φ t.σ vs.toList xs)(h:∀{E:Value->Shared->Prop} {Q:Value->Shared->Prop},(∀k,Q (.ref s.heap.objs.size) {s with heap:=s.heap.push {cls:=.type "list",data:=.seq vs n},toks:=k})->w E Q s):ae t (ju m (.list xs)) w (VR Ω):=
 ae.new (.list m8 V) h
theorem ae.Hd{vs:Array Value}{xs:List aa}{n:Nat}(V:fT Ω t.Φ t.σ vs.toList xs)(h:∀{E:Value->Shared->Prop} {Q:Value->Shared->Prop},(∀k,Q (.ref s.heap.objs.size) {s with heap:=s.heap.push {cls:=.type "tuple",data:=.seq vs n},toks:=k})->w E Q s):ae t (aj (.tup xs)) w (VR Ω):=
 ae.fin λE Q q=>h λk=>q _ _ ⟨_,t.σ,t.B,t.g.trans Facts.cX,(t.pushS _).zR t.new⟩ ⟨⟨_,k,rfl⟩,Facts.cX,.refl⟩
  (.tup (.inr ⟨jN _,m8⟩) rfl rfl (bD.rec .nil (λa _ b=>.cons (a.mono Facts.cX .refl) b) V))
theorem pF:LF<=sizeLine:=by rw [sizeLine_eq];exact bY rfl
theorem ae.sm{n:Nat}{m:HM α}{w:Tr β}(h:n < LF->ae t m w R):ae t (sm n m) w R:=ae.gd λc=>h (of_decide_eq_true c)
theorem xO{vs ws:Array Value}{xs ys:List aa}(h1:fT Ω Φ σ vs.toList xs)(h2:fT Ω Φ σ ws.toList ys)(l:xs.length + ys.length < LF):vs.size + ws.size<=sizeLine:=
 ai (Nat.le_of_lt (by rw [bX h1.length,bX h2.length];exact l)) pF
theorem D4{l b:Addr}{vs ws:Array Value}(hsz:vs.size + ws.size<=sizeLine){Q:Value->Shared->Prop}{E:Value->Shared->Prop}(h1:s.heap.IsList l vs)(h2:s.heap.IsList b ws)
  (h:∀k,Q (.ref s.heap.objs.size) {s with heap:=s.heap.push {cls:=.type "list",data:=.seq (vs++ws)},toks:=k}):wpAny (model Ω.prog Ω.w) A (binaryOp .Add (.ref l) (.ref b)) Q E s:=by
 obtain ⟨⟨c1,d1,t1,s1⟩,k1,k2,n1,k3⟩:=h1
 obtain ⟨⟨c2,d2,t2,s2⟩,k4,k5,n2,k6⟩:=h2
 cases k2;cases k3;cases k5;cases k6
 exact concat_meets ⟨_,k1,rfl⟩ ⟨_,k4,rfl⟩ noFill_list_add seq_list_add PySem.F.slot_list_add PySem.F.entry_list_add (PySem.F.args_list_add_2 _ _) (list_addW l b vs ws n1 n2 d1 d2 s1 s2 hsz) ⟨k1,k4,h _⟩
theorem AN{l b:Addr}{vs ws:Array Value}(hsz:vs.size + ws.size<=sizeLine){Q:Value->Shared->Prop}{E:Value->Shared->Prop}(h1:s.heap.IsTuple l vs)(h2:s.heap.IsTuple b ws)
  (q1:vs.isEmpty=true->Q (.ref b) s) (q2:ws.isEmpty=true->Q (.ref l) s)
  (h:∀k,Q (.ref s.heap.objs.size) {s with heap:=s.heap.push {cls:=.type "tuple",data:=.seq (vs++ws)},toks:=k}):wpAny (model Ω.prog Ω.w) A (binaryOp .Add (.ref l) (.ref b)) Q E s:=by
 obtain ⟨⟨c1,d1,t1,s1⟩,k1,k2,n1,k3⟩:=h1
 obtain ⟨⟨c2,d2,t2,s2⟩,k4,k5,n2,k6⟩:=h2
 cases k2;cases k3;cases k5;cases k6
 have go:∀{S:PySem.Spec},Meets (Builtin.«tuple.__add__» ⟨[.ref l,.ref b],[]⟩) S->S A (wants Q E) s->wpAny (model Ω.prog Ω.w) A (binaryOp .Add (.ref l) (.ref b)) Q E s:=λg k=>concat_meets ⟨_,k1,rfl⟩ ⟨_,k4,rfl⟩ noFill_tuple_add seq_tuple_add PySem.F.slot_tuple_add PySem.F.entry_tuple_add (PySem.F.args_tuple_add_2 _ _) g k
 by_cases c:vs.isEmpty=true
 ·exact go (tuple_addW0 l b vs ws n1 n2 d1 d2 s1 s2 c) ⟨k1,k4,q1 c⟩
 ·by_cases c':ws.isEmpty=true
  ·exact go (tuple_addW1 l b vs ws n1 n2 d1 d2 s1 s2 c c') ⟨k1,k4,q2 c'⟩
  ·exact go (tuple_addW2 l b vs ws n1 n2 d1 d2 s1 s2 c c' hsz) ⟨k1,k4,h _⟩
end
section
variable{Ω:Cx}{Φ Φ' Kp:Facts}{σ σ':Sg}{hp hp':Hp}{s s':Shared}{A:Around}{v u:Value}{x y z:aa}{α β:Type}{t:Wl Ω Kp hp s}{w:Tr β}{R:Rl β α}
theorem ae.oL{o:Option ak}{f:List aa->HM α}{d:HM α}(h:∀i,o=some (.list i)->ae t (f i) w R)(h2:ae t d w R):ae t (oL o f d) w R:=by
 rcases o with _ | o
 ·exact h2
 ·cases o <;> first | exact h2 | exact h _ rfl
theorem ae.ie{o:Option ak}{f:List (Sx×aa)->HM α}{d:HM α}(h:∀i,o=some (.sd i)->ae t (f i) w R)(h2:ae t d w R):ae t (ie o f d) w R:=by
 rcases o with _ | o
 ·exact h2
 ·cases o <;> first | exact h2 | exact h _ rfl
theorem ae.oF{o:Option ak}{f:List (Int×aa)->HM α}{d:HM α}(h:∀i,o=some (.eg i)->ae t (f i) w R)(h2:ae t d w R):ae t (oF o f d) w R:=by
 rcases o with _ | o
 ·exact h2
 ·cases o <;> first | exact h2 | exact h _ rfl
theorem ae.ob{k:Option ak->HM α}(h:ae t (k (bH hp x)) w R):ae t (SP x k) w R:=h
theorem ae.ge{k:Option ak->HM α}(h:ae t (k (hp.get x)) w R):ae t (rQ x k) w R:=h
theorem tL{a b:Sx}:toS a++toS b=toS (a++b):=congrArg PySem.Str.mk (by simp;rfl)
theorem bD.nil_of{vs:Array Value}{xs:List aa}(h:fT Ω Φ σ vs.toList xs)(e:vs.isEmpty=true):xs=[]:=List.isEmpty_iff.mp (h.isEmpty.symm.trans (Array.isEmpty_toList.trans e))
theorem Wl.le.refl:t.le t:=⟨.refl,.refl,.refl⟩
theorem ae.old{a:aa}{v:Value}(V:t.V v a):ae t (aj a) (λE Q s=>Q v s) (VR Ω):=ae.fin λE Q q=>q _ _ t Wl.le.refl V
theorem Q8{m:Mode}(V:t.V v x)(V':t.V u y):ae t (Cd m x y) (Wp Ω A (binaryOp .Add v u)) (VR Ω):=
 ae.gu (λi ex=>ae.gu (λj ey=>Cc V V' ex ey) ae.no) <|
 ae.iH (λi ex=>ae.iH (λj ey=>ae.sm λl=>V.dR (P:=λv=>ae t (aj (.str (i++j))) (Wp Ω A (binaryOp .Add v u)) (VR Ω)) ex λtk a1=>V'.dR (P:=λu=>ae t (aj (.str (i++j))) (Wp Ω A (binaryOp .Add (.str (toS i) tk) u)) (VR Ω)) ey λtk' a2=>
  ae.val λq=>PyProof.Rows.add_str (λk' k=>q _ _ (tL▸ .str _ _ λc hc=>(List.mem_append.mp hc).elim (a1 c) (a2 c))) (ai (Nat.le_of_lt l) pF)) ae.no) <|
 ae.vS (λi ex=>ae.vS (λj ey=>ae.sm λl=>mf t.S V (P:=λv=>t.V v x->ae t (aj (.tup (i++j))) (Wp Ω A (binaryOp .Add v u)) (VR Ω)) ex (λa vs h1 h2 V=>mf t.S V' (P:=λu=>t.V u y->ae t (aj (.tup (i++j))) (Wp Ω A (binaryOp .Add (.ref a) u)) (VR Ω)) ey (λb ws h3 h4 V'=>
  λx hp' e E Q q=>AN (xO h2 h4 l) h1 h3 (λc=>ae.old (v:=.ref b) (by rw [h2.nil_of c,List.nil_append,<-ey];exact V') x hp' e E Q q) (λc=>ae.old (v:=.ref a) (by rw [h4.nil_of c,cY,<-ex];exact V) x hp' e E Q q)
   (ae.Hd (w:=λE Q s=>∀k,Q (.ref s.heap.objs.size) {s with heap:=s.heap.push {cls:=.type "tuple",data:=.seq (vs++ws)},toks:=k}) (by rw [Array.toList_append];exact h2.append h4) (λq=>q) x hp' e E Q q)) V') V) ae.no) <|
 ae.ob <| ae.ob <| ae.oL (λi ex=>ae.oL (λj ey=>ae.sm λl=>c9 t.S V (P:=λv=>ae t (ju m (.list (i++j))) (Wp Ω A (binaryOp .Add v u)) (VR Ω)) ex λa vs h1 h2=>c9 t.S V' (P:=λu=>ae t (ju m (.list (i++j))) (Wp Ω A (binaryOp .Add (.ref a) u)) (VR Ω)) ey λb ws h3 h4=>
  ae.He (by rw [Array.toList_append];exact h2.append h4) λq=>D4 (xO h2 h4 l) h1 h3 q) ae.no) ae.no
end
section
variable{α κ κ':Type} [DecidableEq κ] [DecidableEq κ']{R:Value->α->Prop}{f:κ->κ'}{vs:List (κ'×Value)}{xs:List (κ×α)}
theorem tJ{k i:κ'}{v:Value}{r:List (κ'×Value)}:valueAt ((k,v)::r) i=if k=i then some v else valueAt r i:=by
 unfold valueAt
 rw [List.find?_cons]
 by_cases h:k=i
 ·rw [if_pos h,decide_eq_true h];rfl
 ·rw [if_neg h,decide_eq_false h]
theorem gQ{p:κ×α}{i:κ}{r:List (κ×α)}:i7 (p::r) i=if p.1=i then some p.2 else i7 r i:=rfl
theorem bG.get(h:bG R f vs xs)(inj:∀{a b},f a=f b->a=b)(i:κ):(∀{x},i7 xs i=some x->∃v,valueAt vs (f i)=some v/\R v x)/\(i7 xs i=none->valueAt vs (f i)=none):=
 bG.rec (motive:=λvs xs _=>(∀{x},i7 xs i=some x->∃v,valueAt vs (f i)=some v/\R v x)/\(i7 xs i=none->valueAt vs (f i)=none)) ⟨λe=>(nomatch e),λ_=>rfl⟩
  (λ{k v x vs xs} a _ ih=>by
   rw [tJ,gQ]
   by_cases c:k=i
   ·rw [if_pos c,if_pos (congrArg f c)];exact ⟨λe=>⟨v,rfl,ay e▸a⟩,λe=>(nomatch e)⟩
   ·rw [if_neg c,if_neg λq=>c (inj q)];exact ih) h
theorem bG.isSome(h:bG R f vs xs)(inj:∀{a b},f a=f b->a=b)(i:κ):(valueAt vs (f i)).isSome=(i7 xs i).isSome:=by
 cases e:i7 xs i with
 | none=>rw [(h.get inj i).2 e];rfl
 | some x=>obtain ⟨v,q,_⟩:=(h.get inj i).1 e;rw [q];rfl
theorem bG.getD(h:bG R f vs xs)(inj:∀{a b},f a=f b->a=b)(i:κ){v:Value}{x:α}(r:R v x):R ((valueAt vs (f i)).getD v) ((i7 xs i).getD x):=by
 cases e:i7 xs i with
 | none=>rw [(h.get inj i).2 e];exact r
 | some y=>obtain ⟨u,q,k⟩:=(h.get inj i).1 e;rw [q];exact k
end
end Mn
end
section
open PySem PySem.W PyProof PyProof.Rows
set_option genInjectivity false
namespace Mn
set_option autoImplicit true
mutual
noncomputable def toPy:aa->PyData
 | .none=>.none
 | .bool b=>.bool b
 | .int i=>.int i
 | .str s=>.str (toS s)
 | .tup xs=>.tuple (lL xs)
 | .list xs=>.list (lL xs)
 | _=>.dict []
noncomputable def lL:List aa->List PyData
 | []=>[]
 | x::xs=>toPy x::lL xs
end
section
variable{Ω:Cx}{Φ Φ' Kp:Facts}{σ σ':Sg}{hp hp':Hp}{h:Heap}{s s':Shared}{A:Around}{v u:Value}{x y z:aa}{α β:Type}{t:Wl Ω Kp hp s}{w:Tr β}{R:Rl β α}{b c:Bool}
theorem sE{s:Sx}(a:Cs s):PySem.PyData.strOk (toS s)=true:=by
 unfold PySem.PyData.strOk toS
 rw [<-Array.all_toList]
 exact List.all_eq_true.mpr λc hc=>decide_eq_true (by have:=a c hc;omega)
noncomputable def PL(h:Heap)(n:Nat)(v:Value)(x:aa):Prop:=(∃as,Reads h v (toPy x) as)/\(toPy x).canLay0=true/\(toPy x).depth<=n
noncomputable def Vk(h:Heap)(n:Nat)(vs:List Value)(xs:List aa):Prop:=(∃as,ReadsAll h vs (lL xs) as)/\PyData.canLayAll0 (lL xs)=true/\PyData.depthAll (lL xs)<=n
theorem FT{n:Nat}(ih:∀v x,VR Ω Φ σ v x->hG n x=true->PL h n v x){vs:List Value}{xs:List aa}(V:fT Ω Φ σ vs xs):xs.all (hG n)=true->Vk h n vs xs:=
 bD.rec (motive:=λvs xs _=>xs.all (hG n)=true->Vk h n vs xs) (λ_=>⟨⟨_,.nil⟩,rfl,bP _⟩) (λ{v x vs xs} a _ k e=>
  have e:=Bool.and_eq_true_iff.mp e
  have p:=ih _ _ a e.1
  have q:=k e.2
  ⟨p.1.elim λ_ r=>q.1.elim λ_ r'=>⟨_,.cons r r'⟩,Bool.and_eq_true_iff.mpr ⟨p.2.1,q.2.1⟩,Nat.max_le.mpr ⟨p.2.2,q.2.2⟩⟩) V
theorem jU(hΦ:Le Φ (EF h))(n:Nat):∀v x,VR Ω Φ σ v x->hG n x=true->PL h n v x:=
 Nat.rec (motive:=λn=>∀v x,VR Ω Φ σ v x->hG n x=true->PL h n v x) (λv x V e=>by
  cases V with
  | none=>exact ⟨⟨_,.none⟩,rfl,bP _⟩
  | bool b=>exact ⟨⟨_,.bool b⟩,rfl,bP _⟩
  | int i t=>exact ⟨⟨_,.int i t⟩,rfl,bP _⟩
  | str s t a=>exact ⟨⟨_,.str _ t⟩,sE a,bP _⟩
  | _=>cases e) (λn ih v x V e=>by
  cases V with
  | none=>exact ⟨⟨_,.none⟩,rfl,bP _⟩
  | bool b=>exact ⟨⟨_,.bool b⟩,rfl,bP _⟩
  | int i t=>exact ⟨⟨_,.int i t⟩,rfl,bP _⟩
  | str s t a=>exact ⟨⟨_,.str _ t⟩,sE a,bP _⟩
  | tup h1 h2 h3 h4=>exact have q:=FT ih h4 e;⟨q.1.elim λ_ r=>⟨_,.tuple (hΦ _ _ h1) h2 h3 r⟩,q.2.1,ee q.2.2⟩
  | list h1 h2 h3 h4=>exact have q:=FT ih h4 e;⟨q.1.elim λ_ r=>⟨_,.list (hΦ _ _ h1) h2 h3 r⟩,q.2.1,ee q.2.2⟩
  | _=>cases e) n
theorem zp(a b:Sx):(a==b)=(toS a==toS b):=by
 by_cases e:a=b
 ·rw [e,beq_self_eq_true,beq_self_eq_true]
 ·rw [beq_eq_false_iff_ne.mpr e,beq_eq_false_iff_ne.mpr λq=>e (fm q)]
theorem wN{n:Nat}(ih:∀x,hG n x=true->∀y,uU x y=PyData.eqv (toPy x) (toPy y))(xs:List aa):xs.all (hG n)=true->∀ys,pJ xs ys=PyData.eqvAll (lL xs) (lL ys):=
 List.rec (motive:=λxs=>xs.all (hG n)=true->∀ys,pJ xs ys=PyData.eqvAll (lL xs) (lL ys)) (λ_ ys=>by cases ys <;> rfl) (λx xs k e ys=>by
  have e:=Bool.and_eq_true_iff.mp e
  cases ys with
  | nil=>rfl
  | cons y ys=>show (uU x y&&pJ xs ys)=_;rw [ih x e.1 y,k e.2 ys];rfl) xs
theorem pW(n:Nat):∀x,hG n x=true->∀y,uU x y=PyData.eqv (toPy x) (toPy y):=
 Nat.rec (motive:=λn=>∀x,hG n x=true->∀y,uU x y=PyData.eqv (toPy x) (toPy y)) (λx e y=>by
  cases x with
  | none=>cases y <;> rfl
  | bool c=>cases c <;> cases y <;> rfl
  | int=>cases y <;> first | rfl | (rename_i c;cases c <;> rfl)
  | str=>cases y <;> first | rfl | exact zp _ _
  | _=>cases e) (λn ih x e y=>by
  cases x with
  | none=>cases y <;> rfl
  | bool c=>cases c <;> cases y <;> rfl
  | int=>cases y <;> first | rfl | (rename_i c;cases c <;> rfl)
  | str=>cases y <;> first | rfl | exact zp _ _
  | tup xs=>cases y <;> first | rfl | exact wN ih xs e _
  | list xs=>cases y <;> first | rfl | exact wN ih xs e _
  | _=>cases e) n
theorem rL{P:Prop}(e:rS x y=some b)(p:hG 3 x=true->hG 3 y=true->uU x y=b->P)(q:∀kvs,x= .sd kvs->y= .none->false=b->P):P:=by
 unfold rS at e
 cases c:hG 3 x&&hG 3 y with
 | true=>rw [c]at e;exact have c:=Bool.and_eq_true_iff.mp c;p c.1 c.2 (ay e)
 | false=>
  rw [c]at e
  cases x with
  | sd kvs=>cases y with
   | none=>exact q _ rfl rfl (ay e)
   | _=>cases e
  | _=>cases e
theorem sub_NoneType_dict:isSubtype (.type "NoneType") (.type "dict")=pure false:=by rw [isSubtype_type];kernel_rfl
theorem jX(l:Addr):Meets (Builtin.«dict.__eq__» ⟨[.ref l,.none],[]⟩) (λ_ R s=>R (.ok (.ret .notImplemented)) s):=
 .of_wp λprog w A R s h=>by obtain ⟨hp,g,d,tk,os⟩:=s;have f1:=sub_NoneType_dict;wp_walk;exact ⟨_,rfl,h⟩
open PySem.SeqAt in
theorem EqAt.BJ{K':Type} [DecidableEq K']{knd:KeyKind Ω.prog Ω.w K'}{l:Addr}{kvs:List (K'×Value)}(hl:s.heap.DictOf knd l kvs)(hu:A.units < cLine):EqAt A s (.ref l) .none false:=λprog w E Q h=>by
 unfold eqBool
 refine wpAny_holding ?_
 refine wpAny_ite_split (λhab=>absurd (eq_of_beq hab) nofun) (λ_=>?_)
 have T:=hl.typeIs
 refine wpAny_bind (rc_eq_decline_or (k:=false) T rfl (by decide) sub_NoneType_dict PySem.F.slot_dict_eq PySem.F.slot_NoneType_eq_refl
  (λ_ hq=>call_meets PySem.F.slot_dict_eq T PySem.F.entry_dict_eq (PySem.F.args_dict_eq_2 _ _) (jX l) hq)
  (λ_ hq=>call_gives PySem.F.slot_NoneType_eq_refl rfl PySem.F.entry_NoneType_eq (PySem.F.args_NoneType_eq_2 _ _) (NoneType___eq___none_ref_0 l) hq)
  (λ_ hq=>wpAny_of_eq (rfl:isSame (.ref l) .none=pure false) hq) (.inr hu) (wpAny_truthy_bool h))
open PySem.SeqAt in
theorem MD(t:Wl Ω Kp hp s)(V:t.V v x)(V':t.V u y)(e:rS x y=some b)(hu:A.units + 8 < cLine):EqAt A s v u b:=
 rL e (λc1 c2 e=>(jU t.S.fz 3 v x V c1).1.elim λ_ r1=>(jU t.S.fz 3 u y V' c2).1.elim λ_ r2=>e▸pW 3 x c1 y▸
   eqAt_reads _ _ A s v u _ _ r1 r2 (jU t.S.fz 3 v x V c1).2.1 (jU t.S.fz 3 u y V' c2).2.1 (bJ (dB (ai (Nat.min_le_left _ _) (ai (jU t.S.fz 3 v x V c1).2.2 (by decide:3<=8))) _) hu))
  λkvs ex ey e1=>by subst ex ey e1;cases V';cases V with | sd o=>cases o with | sd h1 h2=>exact EqAt.BJ (h1.2.imp λ_ k=>k.imp λ_ k=>k.imp λ_ k=>k.imp_left (t.S.fz _ _)) (bJ (aJ _ 8) hu)
theorem sI{n:Nat}(hn:n<=64)(p:PL h n v x):PySem.SeqAt.shaped (toPy x)=true:=Bool.and_eq_true_iff.mpr ⟨p.2.1,decide_eq_true (ai p.2.2 hn)⟩
theorem Qz{o:CmpOp}{g:Bool->Bool}(t:Wl Ω Kp hp s)(V:t.V v x)(V':t.V u y)(hd:hG 3 x=true)(e:rS x y=some b){E Q}
  (k:∀{da db:PyData} {as bs},Reads s.heap v da as->Reads s.heap u db bs->PySem.SeqAt.shaped da=true->PySem.SeqAt.shaped db=true->Q (.bool (g (PyData.eqv da db))) s->wpAny (model Ω.prog Ω.w) A (compareOp o v u) Q E s) (q:Q (.bool (g b)) s):wpAny (model Ω.prog Ω.w) A (compareOp o v u) Q E s:=
 rL e (λc1 c2 e=>(jU t.S.fz 3 v x V c1).1.elim λ_ r1=>(jU t.S.fz 3 u y V' c2).1.elim λ_ r2=>
   k r1 r2 (sI (by decide) (jU t.S.fz 3 v x V c1)) (sI (by decide) (jU t.S.fz 3 u y V' c2)) (by rw [<-pW 3 x c1 y,e];exact q))
  λkvs ex ey e=>by subst ex;cases hd
open PySem.SeqAt in
theorem IP(t:Wl Ω Kp hp s){b b':Bool}{x':aa}(V:t.V v x)(V':t.V v x')(e:rS x y=some b)(e':rS x' y=some b'):b=b':=by
 have side:∀{kvs:List (Sx×aa)} {x':aa} {b':Bool},t.V v (.sd kvs)->t.V v x'->uU x' .none=b'->false=b':=λV V' e=>by
  cases V with | sd _=>cases V' <;> exact e
 refine rL e (λc1 c2 q=>rL e' (λd1 d2 q'=>?_) λk ex ey q'=>?_) λk ex ey q=>rL e' (λd1 d2 q'=>?_) λk ex ey q'=>?_
 ·rw [<-q,<-q',pW 3 x c1,pW 3 x' d1]
  obtain ⟨as,r1⟩:=(jU t.S.fz 3 v x V c1).1
  obtain ⟨bs,r2⟩:=(jU t.S.fz 3 v x' V' d1).1
  rw [PySem.SeqAt.Reads.unique _ _ _ _ _ (jU t.S.fz 3 v x V c1).2.1 r1 r2]
 ·subst ex ey;rw [<-q',side V' V q]
 ·subst ex ey;rw [<-q,side V V' q']
 ·rw [<-q,<-q']
end
end Mn
end
section
open PySem PySem.W PyProof.Rows
set_option genInjectivity false
namespace Mn
set_option autoImplicit true
section
variable{α κ κ':Type} [DecidableEq κ] [DecidableEq κ']{R:Value->α->Prop}{f:κ->κ'}{vs:List (κ'×Value)}{xs:List (κ×α)}
theorem o9{k i:κ'}{v u:Value}{r:List (κ'×Value)}(nd:(((k,v)::r).map (·.1)).Nodup):stored ((k,v)::r) i u=if k=i then (k,u)::r else (k,v)::stored r i u:=by
 unfold stored
 rw [List.any_cons,List.map_cons]
 by_cases h:k=i
 ·rw [if_pos h,if_pos h,if_pos (by rw [decide_eq_true h];rfl),map_store_of_not_mem r i u (h▸(List.nodup_cons.mp nd).1)]
 ·rw [if_neg h,if_neg h,decide_eq_false h,Bool.false_or]
  by_cases c:(r.any λkv=>decide (kv.1=i))=true
  ·rw [if_pos c,if_pos c]
  ·rw [if_neg c,if_neg c];rfl
theorem tG{k i:κ'}{v:Value}{r:List (κ'×Value)}(nd:(((k,v)::r).map (·.1)).Nodup):without ((k,v)::r) i=if k=i then r else (k,v)::without r i:=by
 unfold without
 rw [List.filter_cons]
 by_cases h:k=i
 ·rw [if_pos h,if_neg (λc=>of_decide_eq_true (p:=¬k=i) c h)]
  exact List.filter_eq_self.mpr λp hp=>decide_eq_true λq=>(List.nodup_cons.mp nd).1 (List.mem_map.mpr ⟨p,hp,q.trans h.symm⟩)
 ·rw [if_neg h,if_pos (decide_eq_true h)]
theorem oO{p:κ×α}{i:κ}{x:α}{r:List (κ×α)}:i5 (p::r) i x=if p.1=i then (p.1,x)::r else p::i5 r i x:=rfl
theorem Bk{p:κ×α}{i:κ}{r:List (κ×α)}:Bl (p::r) i=if p.1=i then r else p::Bl r i:=rfl
theorem ue{p:κ'×Value}{r:List (κ'×Value)}(nd:((p::r).map (·.1)).Nodup):(r.map (·.1)).Nodup:=(List.nodup_cons.mp nd).2
theorem bG.set(h:bG R f vs xs)(inj:∀{a b},f a=f b->a=b)(i:κ){v:Value}{x:α}(r:R v x):(vs.map (·.1)).Nodup->bG R f (stored vs (f i) v) (i5 xs i x):=
 bG.rec (motive:=λvs xs _=>(vs.map (·.1)).Nodup->bG R f (stored vs (f i) v) (i5 xs i x)) (λ_=>.cons r .nil)
  (λ{k u y vs xs} a b ih nd=>by
   rw [o9 nd,oO]
   by_cases c:k=i
   ·rw [if_pos c,if_pos (congrArg f c)];exact .cons r b
   ·rw [if_neg c,if_neg λq=>c (inj q)];exact .cons a (ih (ue nd))) h
theorem bG.del(h:bG R f vs xs)(inj:∀{a b},f a=f b->a=b)(i:κ):(vs.map (·.1)).Nodup->bG R f (without vs (f i)) (Bl xs i):=
 bG.rec (motive:=λvs xs _=>(vs.map (·.1)).Nodup->bG R f (without vs (f i)) (Bl xs i)) (λ_=>.nil)
  (λ{k u y vs xs} a b ih nd=>by
   rw [tG nd,Bk]
   by_cases c:k=i
   ·rw [if_pos c,if_pos (congrArg f c)];exact b
   ·rw [if_neg c,if_neg λq=>c (inj q)];exact .cons a (ih (ue nd))) h
end
section
variable{Ω:Cx}{Φ Φ' Kp:Facts}{σ σ':Sg}{hp hp':Hp}{h:Heap}{s s':Shared}{A:Around}{v u:Value}{x y z:aa}{α β:Type}{t:Wl Ω Kp hp s}{w:Tr β}{R:Rl β α}{b c:Bool}
theorem DictOf.nodup{K':Type} [DecidableEq K']{knd:KeyKind Ω.prog Ω.w K'}{a:Addr}{kvs:List (K'×Value)}(x:h.DictOf knd a kvs):(kvs.map (·.1)).Nodup:=let ⟨_,_,_,_,_,_,_,_,n⟩:=x;n
@[elab_as_elim]
theorem fV(S:St Ω Φ Kp σ hp h)(V:VR Ω Φ σ v x){ob:ak}(e:hp.get x=some ob){P:Value->Prop}(p:∀a,σ x=some a->OR Ω Φ σ h a ob->P (.ref a)):P v:=by
 have live:∀{a l},σ l=some a->hp.get l=some ob->(∀a,σ l=some a->OR Ω Φ σ h a ob->P (.ref a))->P (.ref a):=λq e p=>(S.obj _ _ e).elim λb y=>p _ q (ay (y.1.symm.trans q)▸y.2)
 exact VR.casesOn (motive_1:=λv x _=>hp.get x=some ob->(∀a,σ x=some a->OR Ω Φ σ h a ob->P (.ref a))->P v) V aA (λ_=>aA) (λ_ _=>aA) (λ_ _ _=>aA) (λ_ _ _ _=>aA) (λ_ _ _ _=>aA) (λ_=>aA) (λ_=>aA) (λ_ _=>aA) (λ_ _ _=>aA) (λq e p=>live q e p) (λq e p=>live q e p) e p
@[elab_as_elim]
theorem xW(S:St Ω Φ Kp σ hp s.heap)(V:VR Ω Φ σ v x){xs:List aa}(e:om hp x=some xs){P:Value->Prop}(p:∀a vs,s.heap.IsList a vs->fT Ω Φ σ vs.toList xs->P (.ref a))(q:∀a vs,s.heap.IsTuple a vs->fT Ω Φ σ vs.toList xs->P (.ref a)):P v:=by
 unfold om at e
 refine mv e (λys ex e=>?_) λe=>vU e (λys eo e=>?_) aA
 ·exact mf S V (P:=P) ex λa vs h1 h2=>q a vs h1 (ay e▸h2)
 ·exact c9 S V (P:=P) eo λa vs h1 h2=>p a vs h1 (ay e▸h2)
theorem bD.mem{α β:Type}{R:α->β->Prop}{vs:List α}{xs:List β}(h:bD R vs xs):∀{v:α},v∈vs->∃x,x∈xs/\R v x:=
 bD.rec (motive:=λvs xs _=>∀{v:α},v∈vs->∃x,x∈xs/\R v x) (λe=>nomatch e) (λ{v x vs xs} a _ k u e=>(List.mem_cons.mp e).elim (λq=>⟨x,aF,q▸a⟩) λq=>(k q).imp λ_=>.imp_left (bB _)) h
theorem Nv{x:aa}(ys:List aa):∀{b:Bool},xx x ys=some b->(∀y∈ys,∃c,rS y x=some c)/\(b=true ↔ ∃y∈ys,rS y x=some true):=
 List.rec (motive:=λys=>∀{b:Bool},xx x ys=some b->(∀y∈ys,∃c,rS y x=some c)/\(b=true ↔ ∃y∈ys,rS y x=some true)) (λ{b} e=>⟨λ_ h=>(nomatch h),λq=>(nomatch (ay e).trans q),λq=>q.elim λ_ q=>(nomatch q.1)⟩)
  (λy ys ih b e=>fv e (λa e1 e=>fv e (λc e2 e=>
   have k:=ih e2
   have e:(a ||c)=b:=ay e
   ⟨λz hz=>(List.mem_cons.mp hz).elim (λq=>⟨a,q▸e1⟩) (k.1 z),λq=>(Bool.or_eq_true_iff.mp (e.trans q)).elim (λq=>⟨y,aF,q▸e1⟩) λq=>(k.2.mp q).imp λ_=>.imp_left (bB _),
    λq=>q.elim λz q=>e.symm.trans (Bool.or_eq_true_iff.mpr ((List.mem_cons.mp q.1).elim (λw=>.inl (ay ((w▸e1).symm.trans q.2))) λw=>.inr (k.2.mpr ⟨z,w,q.2⟩)))⟩) aA) aA) ys
open Classical in
theorem Ey{ys:List aa}{vs:Array Value}(V:t.V v x)(V':fT Ω t.Φ t.σ vs.toList ys)(e:xx x ys=some b)(hu:A.units + 64 < cLine):∃f:Value->Bool,(∀c,c∈vs->PySem.SeqAt.EqAt A.in1 s c v (f c))/\vs.any f=b:=by
 have k:=Nv ys e
 refine ⟨λc=>decide (∃z∈ys,t.V c z/\rS z x=some true),λc hc=>?_,?_⟩
 ·obtain ⟨z,hz,r⟩:=V'.mem (Array.mem_toList_iff.mpr hc)
  obtain ⟨d,hd⟩:=k.1 z hz
  have:decide (∃z∈ys,t.V c z/\rS z x=some true)=d:=by
   cases d with
   | true=>exact decide_eq_true ⟨z,hz,r,hd⟩
   | false=>exact decide_eq_false λ⟨z',hz',r',mR⟩=>nomatch IP t r r' hd mR
  show PySem.SeqAt.EqAt A.in1 s c v (decide _)
  rw [this]
  exact MD t r V hd (bJ (ai (Nat.le_of_eq (Nat.add_assoc A.units 1 8)) (dB (by decide:1 + 8<=64) _)) hu)
 ·rw [Bool.eq_iff_iff,k.2,<-Array.any_toList,List.any_eq_true]
  exact ⟨λ⟨c,hc,hd⟩=>(of_decide_eq_true hd).imp λz q=>⟨q.1,q.2.2⟩,λ⟨z,hz,q⟩=>(List.mem_iff_getElem?.mp hz).elim λi hi=>(V'.get hi).elim λc hc=>⟨c,List.mem_of_getElem? hc.1,decide_eq_true ⟨z,hz,hc.2,q⟩⟩⟩
end
section
variable{Ω:Cx}{Φ Φ' Kp:Facts}{σ σ':Sg}{hp hp':Hp}{h:Heap}{s s':Shared}{A:Around}{v u:Value}{x y z:aa}{α β:Type}{t:Wl Ω Kp hp s}{w:Tr β}{R:Rl β α}{b c:Bool}
noncomputable def zM:Option PySem.Str->Value->Bool
 | none,v=>v== .none
 | some x,v=>Value.isStrOf x v
theorem mS{E}{Q:Int->Shared->Prop}(q:Q 4238894112 {s with toks:=s.toks + 1}):wpAny (model Ω.prog Ω.w) A (pyHash .none) Q E s:=by
 unfold pyHash
 have hv:[Value.none].any Value.onHeap=false:=rfl
 have T:s.TypeIs .none "NoneType":=rfl
 refine wpAny_bind ?_
 rw [cRoomFor,if_neg (by rw [hv];exact Bool.false_ne_true)];refine wpAny_pure ?_
 refine wpAny_bind (wpAny_specialOf T PySem.F.slot_NoneType_hash.lookup ?_)
 show wpAny _ _ (if (some (Value.builtin "NoneType.__hash__")==some Value.none)=true then _ else _) Q E s
 rw [if_neg (by decide)]
 refine wpAny_bind (wpAny_specialOf T PySem.F.slot_NoneType_hash.lookup ?_)
 show wpAny _ _ (callSpecialIfBoundUnlessNone? .none "__hash__" _ >>=_) Q E s
 refine wpAny_bind (wpAny_callSpecialIfBoundUnlessNone?_slot T PySem.F.slot_NoneType_hash
  (wpAny_call_entry PySem.F.slot_NoneType_hash T PySem.F.entry_NoneType_hash ?_ (PySem.F.args_NoneType_hash_1 _)))
 show wpAny _ _ (do ret (<-mkInt 0xFCA86420)) _ _ s
 refine wpAny_ret_mkInt ?_
 exact wpAny_pure q
theorem none_of{v:Value}(h:zM none v=true):v= .none:=eq_of_beq (show (v== .none)=true from h)
theorem A6(v:Value)(a b:Option PySem.Str)(ha:zM a v=true)(hb:zM b v=true):a=b:=by
 cases a with
 | none=>rw [none_of ha]at hb;cases b <;> first | rfl | cases hb
 | some x=>cases b with
  | none=>rw [none_of hb]at ha;cases ha
  | some y=>rw [Value.isStrOf_inj v _ _ ha hb]
open PySem.SeqAt in
noncomputable def optKind(Ω:Cx):KeyKind Ω.prog Ω.w (Option PySem.Str)where
 is:=zM
 hash:=λ | none=>4238894112 | some x=>hashStr Ω.w x
 inj:=A6
 byValue:=λk v h=>by
  cases k with
  | none=>rw [none_of h];rfl
  | some x=>obtain ⟨t,rfl⟩:=Value.isStrOf_shape h;rfl
 pyHash:=λ{A E s k v Q} hv h=>by
  cases k with
  | none=>rw [none_of hv];exact mS h
  | some x=>obtain ⟨t,rfl⟩:=Value.isStrOf_shape hv;exact wpAny_pyHash_str h
 eqBool:=λ{A E s a b u v Q} hu hv h=>by
  cases a <;> cases b
  ·rw [none_of hu,none_of hv];exact EqAt.same _ Ω.prog Ω.w E Q h
  ·obtain ⟨t,rfl⟩:=Value.isStrOf_shape hv
   rw [none_of hu]
   exact EqAt.none_str _ _ Ω.prog Ω.w E Q h
  ·obtain ⟨t,rfl⟩:=Value.isStrOf_shape hu
   rw [none_of hv]
   exact EqAt.str_none _ _ Ω.prog Ω.w E Q h
  ·obtain ⟨t,rfl⟩:=Value.isStrOf_shape hu
   obtain ⟨t',rfl⟩:=Value.isStrOf_shape hv
   refine wpAny_eqBool_str ?_
   rename_i x y
   rw [show decide (x=y)=decide (some x=some y) by by_cases e:x=y <;> simp [e]];exact h
 «strs»:=λk x t v h=>by
  cases k with
  | none=>cases h
  | some y=>
   obtain ⟨u,hu⟩:=Value.isStrOf_shape (show Value.isStrOf y (.str x t)=true from h)
   injection hu with hx
   subst hx
   cases v <;> rfl
theorem A5{es:List DictEntry}{kvs:List (PySem.Str×Value)}(h:Pairs (strKind Ω.prog Ω.w) es kvs):Pairs (optKind Ω) es (kvs.map λp=>(some p.1,p.2)):=by
 induction h with
 | nil=>exact .nil
 | cons a b c ih=>exact .cons a b ih
theorem yg{α:Type}(l:List α):l.Nodup->(l.map some).Nodup:=
 List.rec (motive:=λl=>l.Nodup->(l.map some).Nodup) (λ_=>.nil) (λa l ih h=>List.nodup_cons.mpr ⟨λq=>(List.mem_map.mp q).elim λb q=>(List.nodup_cons.mp h).1 (ay q.2▸q.1),ih (List.nodup_cons.mp h).2⟩) l
theorem yL{d:Addr}{kvs:List (PySem.Str×Value)}(x:h.DictOf (strKind Ω.prog Ω.w) d kvs):h.DictOf (optKind Ω) d (kvs.map λp=>(some p.1,p.2)):=by
 obtain ⟨o,es,ep,ho,hc,hd,hk,hp,hn⟩:=x
 refine ⟨o,es,ep,ho,hc,hd,λe he=>(hk e he).elim λk q=>⟨some k,q.1,q.2⟩,A5 hp,?_⟩
 rw [List.map_map,show ((λx=>x.1) ∘ λp:PySem.Str×Value=>(some p.1,p.2))=some ∘ (·.1)from rfl,<-List.map_map]
 exact yg _ hn
theorem tI{kvs:List (PySem.Str×Value)}:valueAt (kvs.map λp=>(some p.1,p.2)) (none:Option PySem.Str)=none:=by
 unfold valueAt
 rw [List.find?_eq_none.mpr λp hp=>(List.mem_map.mp hp).elim λq r=>r.2▸λc=>nomatch of_decide_eq_true c]
 rfl
noncomputable abbrev RV:Rl Value Bool:=λ_ _ v b=>v= .bool b
noncomputable abbrev qY(neg:Bool):CmpOp:=bif neg then .NotIn else .In
theorem in_dict{K':Type} [DecidableEq K']{knd:KeyKind Ω.prog Ω.w K'}{d:Addr}{kvs:List (K'×Value)}{k:K'}{key:Value}{b:Bool}(hk:knd.is k key=true)(hs:d≠sysModules)(hd:s.heap.DictOf knd d kvs)(hb:(valueAt kvs k).isSome=b)(neg:Bool){b':Bool}(e:(b ^^ neg)=b'):
  ae t (aj b') (Wp Ω A (compareOp (qY neg) key (.ref d))) RV:=ae.val λq=>by
 cases neg with
 | false=>exact wpAny_in_of hk (beq_false_of_ne hs) hd.mapOf (by rw [hb,<-Bool.xor_false b,e];exact q _ _ rfl)
 | true=>exact wpAny_notIn_of hk (beq_false_of_ne hs) hd.mapOf (by rw [hb,<-Bool.xor_true b,e];exact q _ _ rfl)
theorem Qb(V:t.V v x)(V':t.V u y)(e:RG hp x y=some b)(hu:A.units + 64 < cLine)(neg:Bool){b':Bool}(f:(b ^^ neg)=b'):ae t (aj b') (Wp Ω A (compareOp (qY neg) v u)) RV:=by
 refine j9 e (λss ey e=>j9 e (λst ex e=>fv e (λc e1 e=>?_) aA) aA) λe=>fv e (λys e1 e=>?_) λe=>oE e (λkvs e1 e=>j9 e (λss ex e=>?_) λe=>t9 e (λex e=>?_) aA) λe=>qv e (λkvs e1 e=>fQ e (λi ex e=>?_) aA) aA
 ·refine V.dR (P:=λv=>ae t (aj b') (Wp Ω A (compareOp (qY neg) v u)) RV) ex λtk a1=>V'.dR (P:=λu=>ae t (aj b') (Wp Ω A (compareOp (qY neg) (.str (toS st) tk) u)) RV) ey λtk' a2=>ae.val λq=>?_
  have k:=PySem.StrLaws.found_one (toS ss) c
  have e2:st=[c]:=by unfold one? at e1;split at e1 <;> cases e1;rfl
  have e3:toS st=⟨#[c]⟩:=e2▸rfl
  rw [show decide (c∈(toS ss).cps.toList)=ss.contains c by rw [Gn,Bool.eq_iff_iff,decide_eq_true_eq,List.contains_iff_mem],ay e]at k
  cases neg with
  | false=>exact PyProof.Rows.in_str (by rw [e3,k,<-Bool.xor_false b,f];exact q _ s.toks rfl)
  | true=>exact PyProof.Rows.notIn_str (by rw [e3,k,<-Bool.xor_true b,f];exact q _ s.toks rfl)
 ·refine xW t.S V' (P:=λu=>ae t (aj b') (Wp Ω A (compareOp (qY neg) v u)) RV) e1 (λa vs h1 h2=>?_) λa vs h1 h2=>?_
  ·obtain ⟨g,k1,k2⟩:=Ey V h2 e hu
   exact ae.val λq=>by
    cases neg with
    | false=>exact PySem.SeqAt.in_listAt g h1 k1 (by rw [k2,<-Bool.xor_false b,f];exact q _ s.toks rfl)
    | true=>exact PySem.SeqAt.notIn_listAt g h1 k1 (by rw [k2,<-Bool.xor_true b,f];exact q _ s.toks rfl)
  ·obtain ⟨g,k1,k2⟩:=Ey V h2 e hu
   exact ae.val λq=>by
    cases neg with
    | false=>exact PySem.SeqAt.in_tupleAt g h1 k1 (by rw [k2,<-Bool.xor_false b,f];exact q _ s.toks rfl)
    | true=>exact PySem.SeqAt.notIn_tupleAt g h1 k1 (by rw [k2,<-Bool.xor_true b,f];exact q _ s.toks rfl)
 ·exact iS t.S V' (P:=λu=>ae t (aj b') (Wp Ω A (compareOp (qY neg) v u)) RV) e1 λd kvs' hs h1 h2=>V.dR (P:=λv=>ae t (aj b') (Wp Ω A (compareOp (qY neg) v (.ref d))) RV) ex λtk a1=>
   in_dict (strKind_is Ω.prog Ω.w (toS ss) tk) hs h1 ((h2.isSome fm ss).trans (ay e)) neg f
 ·exact iS t.S V' (P:=λu=>ae t (aj b') (Wp Ω A (compareOp (qY neg) v u)) RV) e1 λd kvs' hs h1 h2=>V.nu (P:=λv=>ae t (aj b') (Wp Ω A (compareOp (qY neg) v (.ref d))) RV) ex
   (in_dict (knd:=optKind Ω) (k:=none) rfl hs (yL h1) (by rw [tI];exact ay e) neg f)
 ·exact kM t.S V' (P:=λu=>ae t (aj b') (Wp Ω A (compareOp (qY neg) v u)) RV) e1 λd kvs' hs h1 h2=>V.cQ (P:=λv=>ae t (aj b') (Wp Ω A (compareOp (qY neg) v (.ref d))) RV) ex λtk=>
   in_dict (k:=i) (intKind_is Ω.prog Ω.w i tk) hs h1 ((h2.isSome id i).trans (ay e)) neg f
noncomputable def hH:AG->CmpOp
 | .eq=>.Eq | .ne=>.NotEq | .lt=>.Lt | .le=>.LtE | .gt=>.Gt | .ge=>.GtE | .is=>.Is | .fh=>.IsNot | .in=>.In | .nr=>.NotIn
theorem Es(V:VR Ω Φ σ v x)(V':VR Ω Φ σ u y)(e:Tp x y=some b):plainIs v u=true/\(v==u)=b:=
 t9 e (λey e=>V'.nu (P:=λu=>plainIs v u=true/\(v==u)=b) ey (VR.casesOn (motive_1:=λv x _=>isNone x=some b->plainIs v .none=true/\(v== .none)=b) V
  (λe=>⟨rfl,ay e⟩) (λ_ e=>⟨rfl,ay e⟩) (λ_ _ e=>⟨rfl,ay e⟩) (λ_ _ _ e=>⟨rfl,ay e⟩) (λ_ _ _ _ e=>⟨rfl,ay e⟩) (λ_ _ _ _ e=>⟨rfl,ay e⟩) (λ_ e=>⟨rfl,ay e⟩) (λ_ e=>⟨rfl,ay e⟩)
  (λ_ _ e=>⟨rfl,ay e⟩) (λ_ _ _ e=>⟨rfl,ay e⟩) (λ_ e=>⟨rfl,ay e⟩) (λ_ e=>⟨rfl,ay e⟩) e)) aA
theorem uE{f:Int->Int->Bool}{op:CmpOp}(V:t.V v x)(V':t.V u y)(e:DF f x y=some b)(h:∀{i j t t' E Q},Q (.bool (f i j)) s->wpAny (model Ω.prog Ω.w) A (compareOp op (.int i t) (.int j t')) Q E s):ae t (aj b) (Wp Ω A (compareOp op v u)) RV:=
 fQ e (λi ex e=>fQ e (λj ey e=>V.cQ (P:=λv=>ae t (aj b) (Wp Ω A (compareOp op v u)) RV) ex λtk=>V'.cQ (P:=λu=>ae t (aj b) (Wp Ω A (compareOp op (.int i tk) u)) RV) ey λtk'=>ae.val λq=>h (q _ s.toks (congrArg _ (ay e)))) aA) aA
theorem ub{o:Option Bool}{P:Prop}(e:vW o=some b)(p:∀c,o=some c->(!c)=b->P):P:=fv e (λc e1 e=>p c e1 (ay e)) aA
theorem QT{o:AG}(V:t.V v x)(V':t.V u y)(hu:A.units + 64 < cLine)(e:ck hp o x y=some b):ae t (aj b) (Wp Ω A (compareOp (hH o) v u)) RV:=by
 cases o with
 | eq=>exact iJ e λc e=>ae.val λq=>Qz (g:=id) t V V' c e (λr1 r2 s1 s2 q=>eq_dataH r1 r2 s1 s2 hu q) (q _ s.toks rfl)
 | ne=>exact iJ e λc e=>ub e λd e1 e2=>ae.val λq=>Qz (g:=not) t V V' c e1 (λr1 r2 s1 s2 q=>ne_dataH r1 r2 s1 s2 hu q) (e2▸q _ s.toks rfl)
 | lt=>exact uE V V' e PySem.P.lt_int
 | le=>exact uE V V' e PySem.P.le_int
 | gt=>exact uE V V' e PySem.P.gt_int
 | ge=>exact uE V V' e PySem.P.ge_int
 | is=>exact have k:=Es V V' e;ae.val λq=>wpAny_is_plain k.1 (q _ s.toks (congrArg _ k.2))
 | fh=>exact ub e λc e1 e2=>have k:=Es V V' e1;ae.val λq=>wpAny_isNot_plain k.1 (q _ s.toks (congrArg _ (k.2▸e2)))
 | «in»=>exact Qb V V' e hu false (Bool.xor_false b)
 | nr=>exact ub e λc e1 e2=>Qb V V' e1 hu true ((Bool.xor_true c).trans e2)
end
section
variable{Ω:Cx}{Φ Φ' Kp:Facts}{σ σ':Sg}{hp hp':Hp}{h:Heap}{s s':Shared}{A:Around}{v u:Value}{x y z:aa}{α β:Type}{t:Wl Ω Kp hp s}{w:Tr β}{R:Rl β α}{b c:Bool}
theorem wide{k:Int}(c: -1048576 < k/\k < 1048576): -(2 ^ 63)<=k/\k < 2 ^ 63:=⟨Int.le_trans (by decide) (Int.le_of_lt c.1),Int.lt_trans c.2 (by decide)⟩
theorem wz{xs:List aa}{k:Int}{x:aa}{P:Prop}(e:px xs k=some x)(p:0<=k->xs[k.toNat]?=some x->P)(q:k < 0->0<=k + xs.length->xs[(k + xs.length).toNat]?=some x->P):P:=by
 unfold px at e
 by_cases c:0<=k
 ·exact p c ((if_pos c).symm.trans e)
 ·exact kH ((if_neg c).symm.trans e) (q (Int.not_le.mp c))
theorem bD.at{vs:Array Value}{xs:List aa}{k:Nat}(V:fT Ω Φ σ vs.toList xs)(e:xs[k]?=some x):∃v,vs[k]?=some v/\VR Ω Φ σ v x:=(bD.get V e).imp λv q=>⟨(Array.getElem?_toList ..).symm.trans q.1,q.2⟩
theorem Ja{j:Int}{k:Int}{n:Nat}(e:(if k < 0 then k + n else k)=j)(h0:0<=j)(h1:j < n):seqIndex? k n=some j.toNat:=by
 unfold seqIndex?
 rw [e]
 exact if_pos (Bool.and_eq_true_iff.mpr ⟨decide_eq_true h0,decide_eq_true h1⟩)
theorem wa{xs:List aa}{k:Int}(h0:0<=k)(e:xs[k.toNat]?=some x):k < xs.length:=Int.toNat_of_nonneg h0▸Int.ofNat_lt.mpr (List.getElem?_eq_some_iff.mp e).1
theorem Lz{k n:Int}(h:0<=k + n): -n<=k:=by omega
noncomputable def GI(Ω:Cx)(A:Around)(t:Wl Ω Kp hp s)(v u:Value)(z:aa):Prop:=∃T id v' k,s.TypeIs v T/\typeLookup (.type T) "__getitem__"=pure (some (.builtin id))/\t.V v' z/\∀{E:Value->Shared->Prop} {Q:Value->Shared->Prop},Q v' {s with toks:=k}->wpAny (model Ω.prog Ω.w) A (getItem v u) Q E s
theorem lh{T id:String}{v':Value}{k:Nat}(hT:s.TypeIs v T)(hl:typeLookup (.type T) "__getitem__"=pure (some (.builtin id)))(r:t.V v' z)
  (hw:∀{E:Value->Shared->Prop} {Q:Value->Shared->Prop},Q v' {s with toks:=k}->wpAny (model Ω.prog Ω.w) A (getItem v u) Q E s):GI Ω A t v u z:=⟨_,_,_,_,hT,hl,r,hw⟩
theorem z6(V:t.V v x)(V':t.V u y)(e:aY hp x y=some z):GI Ω A t v u z:=by
 refine fQ e (λk ey e=>V'.cQ (P:=λu=>GI Ω A t v u z) ey λtk=>fv e (λxs e1 e=>iJ e λc e=>?_) λe=>qv e (λkvs e1 e=>?_) aA)
  λe=>j9 e (λss ey e=>V'.dR (P:=λu=>GI Ω A t v u z) ey λtk ha=>oE e (λkvs e1 e=>?_) aA) aA
 ·have c:=wide (of_decide_eq_true c)
  refine xW t.S V (P:=λv=>GI Ω A t v (.int k tk) z) e1 (λa vs h1 h2=>?_) λa vs h1 h2=>?_
  ·exact wz e (λh0 e=>(h2.at e).elim λv' q=>lh h1.typeIs list_getitem_lookup q.2 λw=>wpAny_getItem_list (s:=s) h1 h0 c.2 q.1 w)
    λh0 h3 e=>(h2.at e).elim λv' q=>lh h1.typeIs list_getitem_lookup q.2 λw=>wpAny_getItem_list_neg (s:=s) h1 h0 (by rw [bX h2.length];exact Lz h3) c.1 (by rw [bX h2.length];exact q.1) w
  ·exact wz e (λh0 e=>(h2.at e).elim λv' q=>lh (IsTup.typeIs (show IsTup s.heap _ _ from h1)) slot_tuple_getitem.lookup q.2 λw=>PyProof.Rows.getItem_tuple (s:=s) h1 c.1 c.2 (Ja (if_neg (Int.not_lt.mpr h0)) h0 (by rw [bX h2.length];exact wa h0 e)) q.1 w)
    λh0 h3 e=>(h2.at e).elim λv' q=>lh (IsTup.typeIs (show IsTup s.heap _ _ from h1)) slot_tuple_getitem.lookup q.2 λw=>PyProof.Rows.getItem_tuple (s:=s) h1 c.1 c.2 (Ja (j:=k + xs.length) (by rw [bX h2.length];exact if_pos h0) h3 (by rw [bX h2.length];exact wa h3 e)) q.1 w
 ·exact kM t.S V (P:=λv=>GI Ω A t v (.int k tk) z) e1 λd kvs' hn h1 h2=>
   ((h2.get id k).1 e).elim λv' q=>lh h1.typeIs slot_dict_getitem.lookup q.2 λw=>wpAny_getItem_of (s:=s) (intKind_is Ω.prog Ω.w k tk) h1.mapOf q.1 w
 ·exact iS t.S V (P:=λv=>GI Ω A t v (.str (toS ss) tk) z) e1 λd kvs' hn h1 h2=>
   ((h2.get fm ss).1 e).elim λv' q=>lh h1.typeIs slot_dict_getitem.lookup q.2 λw=>wpAny_getItem_of (s:=s) (strKind_is Ω.prog Ω.w (toS ss) tk) h1.mapOf q.1 w
theorem BG(V:t.V v x)(V':t.V u y)(e:aY hp x y=some z):ae t (aj z) (Wp Ω A (getItem v u)) (VR Ω):=(z6 V V' e).elim λ_ k=>k.elim λ_ k=>k.elim λ_ k=>k.elim λ_ k=>ae.val λq=>k.2.2.2 (q _ _ k.2.2.1)
theorem L9{value slice:PySem.Expr}(V:t.V v x)(V':t.V u y)(hs:subscripted slice false v u=operate [v,u] (getItem v u))(e:aY hp x y=some z):ae t (aj z) (Wp Ω A (subscriptTail value slice v u)) (VR Ω):=
 (z6 V V' e).elim λ_ k=>k.elim λ_ k=>k.elim λ_ k=>k.elim λ_ k=>ae.val λq=>tail_any k.1 k.2.1 (k.2.2.2 (q _ _ k.2.2.1)) hs
end
section
variable{Ω:Cx}{Φ Φ' Kp:Facts}{σ σ':Sg}{hp hp':Hp}{h:Heap}{s s':Shared}{A:Around}{v u:Value}{x y z:aa}{α β:Type}{t:Wl Ω Kp hp s}{w:Tr β}{R:Rl β α}{b c:Bool}
noncomputable def Wl.push(t:Wl Ω Kp hp s)(o:Obj):Wl Ω Kp hp {s with heap:=s.heap.push o}:=⟨t.Φ,t.σ,t.B,t.g,t.pushS o⟩
theorem Wl.Hs{o:Obj}:t.le (t.push o):=⟨⟨s.heap.push o,s.toks,rfl⟩,.refl,.refl⟩
theorem ae.push{m:HM α}{o:Obj}(h:ae (t.push o) m w R):ae t m (λE Q s=>w E Q {s with heap:=s.heap.push o}) R:=
 λx hp' e E Q q=>h x hp' e E Q λv s' t' l r=>q v s' t' (Wl.Hs.trans l) r
theorem JD(V:VR Ω Φ σ v x){i:Option Int}(e:L8 x=some i){P:Value->Prop}(p:∀l:Option (Int×Tok),l.map (·.1)=i->P (partValue l)):P v:=
 t9 e (λex e=>V.nu (P:=P) ex (p none (ay e))) λe=>fQ e (λk ex e=>V.cQ (P:=P) ex λtk=>p (some (k,tk)) (ay e)) aA
theorem part_of:∀l:Option (Int×Tok),IsPart (partValue l) (l.map (·.1))
 | none=>.none
 | some (i,t)=>.int i t
theorem iQ{α:Type}(xs:List α)(lo hi:Option Int):j8 xs lo hi=(xs.drop (kms_lo lo xs.length)).take (kms_hi hi xs.length - kms_lo lo xs.length):=by cases lo <;> cases hi <;> rfl
theorem fT.slice{vs:List Value}{xs:List aa}(r:fT Ω Φ σ vs xs)(lo hi:Option Int):fT Ω Φ σ (kms_pick vs lo hi) (j8 xs lo hi):=by
 rw [iQ]
 unfold kms_pick
 rw [r.length]
 exact (r.drop _).take _
theorem mX{sl:Addr}{b n:Nat}{u:Tok}{E}{Q:Int×Int×Nat->Shared->Prop}(hs:s.heap.IsSliceOf sl .none (.int b u) .none)(hb:b<=n)(h:Q (0,1,b) s):
  wpAny (model Ω.prog Ω.w) A (Builtin.Slice.sliceApplied (.ref sl) (pure (n:Int))) Q E s:=by
 obtain ⟨os,hos,hcs,hds⟩:=id hs
 unfold Builtin.Slice.sliceApplied Builtin.Slice.sliceFields
 refine wpAny_bind (wpAny_bind (wpAny_field hos hds (x:=.none) rfl (wpAny_bind (wpAny_field hos hds (x:=.int b u) rfl (wpAny_bind (wpAny_field hos hds (x:=.none) rfl (wpAny_pure ?_)))))))
 refine wpAny_bind (slicePart_none ?_)
 show wpAny _ _ (if ((1:Int)==0)=true then _ else _) _ _ s
 rw [if_neg (by decide)]
 refine wpAny_bind (slicePart_none (wpAny_bind (slicePart_int (wpAny_bind (wpAny_pure ?_)))))
 show wpAny _ _ (match Builtin.Slice.sliceAdjust none (some (b:Int)) 1 (n:Int)with | (lo,hi)=>pure (lo,(1:Int),Builtin.Slice.slicePlaces lo hi 1)) _ _ s
 have e:Builtin.Slice.sliceAdjust none (some (b:Int)) 1 (n:Int)=(0,(b:Int)):=by
  unfold Builtin.Slice.sliceAdjust
  simp only [show ¬((1:Int) < 0) by decide,Int.not_lt.mpr (Int.natCast_nonneg b),if_false]
  rw [Int.min_eq_left (Int.ofNat_le.mpr hb)]
 rw [e]
 show wpAny _ _ (pure ((0:Int),(1:Int),Builtin.Slice.slicePlaces (0:Int) (b:Int) 1)) _ _ s
 have e2:Builtin.Slice.slicePlaces (0:Int) (b:Int) 1=b:=by
  unfold Builtin.Slice.slicePlaces
  simp only [show (1:Int) > 0 by decide,if_true,Int.ediv_one]
  split <;> omega
 rw [e2]
 exact wpAny_pure h
theorem mN{t sl:Addr}{items:Array Value}{b:Nat}{u:Tok}{E}{Q:Value->Shared->Prop}(ht:IsTup s.heap t items)(hs:s.heap.IsSliceOf sl .none (.int b u) .none)(hb:b < items.size)
  (h:Q (.ref s.heap.objs.size) {s with heap:=s.heap.push {cls:=.type "tuple",data:=.seq (items.toList.take b).toArray}})
  (hsz:items.size<=sizeLine):wpAny (model Ω.prog Ω.w) A (getItem (.ref t) (.ref sl)) Q E s:=by
 have hok:sizeOk (.seq (items.toList.take b).toArray):=by
  show (items.toList.take b).toArray.size<=sizeLine
  rw [List.size_toArray,List.length_take,Array.length_toList]
  exact ai (Nat.min_le_right _ _) hsz
 obtain ⟨os,hos,hcs,hds⟩:=id hs
 have hTs:s.TypeIs (.ref sl) "slice":=⟨os,hos,hcs⟩
 unfold getItem
 try with_reducible refine wpAny_holding ?_
 first | refine wpAny_bind (wpAny_pure ?_) | skip
 refine wpAny_bind (wpAny_sequenceKey (IsTup.typeIs ht) (by decide) ?_)
 refine wpAny_bind (wpAny_callSpecial?_slot (name:=PySem.Str.ofString "__getitem__") (IsTup.typeIs ht) slot_tuple_getitem
  (wpAny_call_entry slot_tuple_getitem (IsTup.typeIs ht) entry_tuple_getitem ?_ (args_tuple_getitem _ _)))
 show wpAny _ _ (Builtin.Tuple.tupleItemsOf (.ref t) >>=_) _ _ s
 refine wpAny_bind (tupleItemsOf_ ht ?_)
 refine wpAny_bind (wpAny_typeOf hTs ?_)
 rw [if_pos (by decide)]
 refine wpAny_bind (mX hs (Nat.le_of_lt hb) ?_)
 show wpAny _ _ (if ((0:Int)==0&&(1:Int)==1&&b==items.size)=true then _ else _) _ _ s
 rw [if_neg (by rw [beq_eq_false_iff_ne.mpr (Nat.ne_of_lt hb)];exact Bool.false_ne_true)]
 have hp:((List.range b).filterMap λ(k:Nat)=>items[((0:Int) + (k:Int) * 1).toNat]?).toArray=(items.toList.take b).toArray:=by
  have e:(λ(k:Nat)=>items[((0:Int) + (k:Int) * 1).toNat]?)=(items[·]?) ∘ (0 + ·):=by
   funext k
   show _=items[0 + k]?
   rw [Int.zero_add,Int.mul_one,Nat.zero_add,Int.toNat_natCast]
  rw [e,<-List.filterMap_map,pick_run items 0 b,List.drop_zero]
 rw [hp]
 first
  | exact wpAny_bind (m:=Builtin.Tuple.tupleExact _) (wpAny_newObj_type (wpAny_pure ⟨_,rfl,wpAny_pure h⟩) hok)
  | exact wpAny_bind (m:=Builtin.Tuple.tupleExact _) (wpAny_newObj_type (wpAny_bind (wpAny_pure (wpAny_pure ⟨_,rfl,wpAny_pure h⟩))) hok)
  | exact wpAny_bind (wpAny_bind (m:=Builtin.Tuple.tupleExact _) (wpAny_newObj_type (wpAny_pure (wpAny_pure ⟨_,rfl,wpAny_pure h⟩)) hok))
  | exact wpAny_bind (wpAny_bind (m:=Builtin.Tuple.tupleExact _) (wpAny_newObj_type (wpAny_pure ⟨_,rfl,wpAny_pure h⟩) hok))
theorem vI{α:Type}(xs:List α)(lo hi:Option Int):Builtin.Str.strSliceIndices lo hi 1 xs.length=(List.range (kms_hi hi xs.length - kms_lo lo xs.length)).map (kms_lo lo xs.length + ·):=by
 show sliceRange (sliceBounds lo hi none xs.length).1 (sliceBounds lo hi none xs.length).2.1 1=_
 rw [kms_bounds,sliceRange_one]
theorem Qj(hi:Option Int)(n:Nat):kms_hi hi n<=n:=by
 unfold kms_hi
 cases hi with
 | none=>exact aO _
 | some y=>
  dsimp only
  split
  ·exact Nat.sub_le _ _
  ·exact Nat.min_le_right _ _
theorem AU{ss:Sx}{lo hi:Option Int}(h:kms_hi hi ss.length - kms_lo lo ss.length=ss.length):j8 ss lo hi=ss:=by
 rw [iQ,h]
 have:=Qj hi ss.length
 rcases (by omega:kms_lo lo ss.length=0\/ss.length=0)with q | q
 ·rw [q,List.drop_zero,List.take_length]
 ·rw [List.length_eq_zero_iff.mp q];rfl
theorem AW{xs:List aa}{l r:Option Int}{P:Prop}(e:C7 xs l r=some z)(p:∀n:Nat,l=some n->r=none->1<=n/\n<=xs.length/\xs.length < LF-> .tup (xs.drop n)=z->P)(q:∀n:Nat,l=none->r=some n->n < xs.length/\xs.length < LF-> .tup (xs.take n)=z->P):P:=by
 cases l with
 | some i=>cases r with
  | some _=>cases e
  | none=>
   refine kH e λc e=>?_
   obtain ⟨n,rfl⟩:=Int.eq_ofNat_of_zero_le (Int.le_trans (by decide) c.1)
   exact p n rfl rfl ⟨Int.ofNat_le.mp c.1,Int.ofNat_le.mp c.2.1,of_decide_eq_true c.2.2⟩ (ay e)
 | none=>cases r with
  | none=>cases e
  | some i=>
   refine kH e λc e=>?_
   obtain ⟨n,rfl⟩:=Int.eq_ofNat_of_zero_le c.1
   exact q n rfl rfl ⟨Int.ofNat_lt.mp c.2.1,of_decide_eq_true c.2.2⟩ (ay e)
theorem wB{l:Option (Int×Tok)}{i:Int}(e:l.map (·.1)=some i):∃tk,l=some (i,tk):=(Option.map_eq_some_iff.mp e).elim λp q=>⟨p.2,q.1.trans (by rw [<-q.2])⟩
theorem sP{l:Option (Int×Tok)}(e:l.map (·.1)=none):l=none:=Option.map_eq_none_iff.mp e
noncomputable abbrev lN(vl vu:Value):Obj:={cls:=.type "slice",data:=.fields #[vl,vu,.none]}
theorem fits{vs:Array Value}{xs:List aa}(V:fT Ω Φ σ vs.toList xs)(h:xs.length < LF):vs.size<=sizeLine:=ai (Nat.le_of_lt (bX V.length▸h)) pF
theorem GJ{value slice:PySem.Expr}{lo hi:aa}{vl vu:Value}(V:t.V v x)(Vl:t.V vl lo)(Vu:t.V vu hi)(hs:∀i,subscripted slice false v (.ref i)=operate [.ref i,v] (getItem v (.ref i)))(e:eK hp x lo hi=some z):
  ae t (aj z) (λE Q s=>wpAny (model Ω.prog Ω.w) A (subscriptTail value slice v (.ref s.heap.objs.size)) Q E {s with heap:=s.heap.push (lN vl vu)}) (VR Ω):=by
 refine fv e (λl el e=>fv e (λr er e=>?_) aA) aA
 refine JD Vl (P:=λvl=>ae t (aj z) (λE Q s=>wpAny (model Ω.prog Ω.w) A (subscriptTail value slice v (.ref s.heap.objs.size)) Q E {s with heap:=s.heap.push (lN vl vu)}) (VR Ω)) el λl' ml=>?_
 refine JD Vu (P:=λvu=>ae t (aj z) (λE Q s=>wpAny (model Ω.prog Ω.w) A (subscriptTail value slice v (.ref s.heap.objs.size)) Q E {s with heap:=s.heap.push (lN (partValue l') vu)}) (VR Ω)) er λu' mu=>?_
 have goal:ae (t.push (lN (partValue l') (partValue u'))) (aj z) (Wp Ω A (subscriptTail value slice v (.ref s.heap.objs.size))) (VR Ω):=by
  have V1:(t.push (lN (partValue l') (partValue u'))).V v x:=V
  have S1:=(t.push (lN (partValue l') (partValue u'))).S
  refine mv e (λxs ex e=>?_) λe=>j9 e (λss ex e=>iE e λhl e=>?_) λe=>vU e (λxs eo e=>iE e λhl e=>?_) aA
  ·refine mf S1 V1 (P:=λv=>(∀i,subscripted slice false v (.ref i)=operate [.ref i,v] (getItem v (.ref i)))->ae (t.push (lN (partValue l') (partValue u'))) (aj z) (Wp Ω A (subscriptTail value slice v (.ref s.heap.objs.size))) (VR Ω)) ex (λa vs h1 h2 hs=>?_) hs
   refine AW e (λn e1 e2 c e=>?_) λn e1 e2 c e=>?_
   ·obtain ⟨tk,rfl⟩:=wB (ml.trans e1)
    obtain rfl:=sP (mu.trans e2)
    rw [<-e]
    exact ae.Hd (vs:=(vs.toList.drop n).toArray) (n:=0) (h2.drop n) λq=>tail_any (IsTup.typeIs h1) slot_tuple_getitem.lookup (getItem_tuple_from h1 (Heap.IsSliceOf.new ..) c.1 (by rw [bX h2.length];exact c.2.1) (q s.toks) (fits h2 c.2.2)) (hs _)
   ·obtain ⟨tk,rfl⟩:=wB (mu.trans e2)
    obtain rfl:=sP (ml.trans e1)
    rw [<-e]
    exact ae.Hd (vs:=(vs.toList.take n).toArray) (n:=0) (h2.take n) λq=>tail_any (IsTup.typeIs h1) slot_tuple_getitem.lookup (mN h1 (Heap.IsSliceOf.new ..) (by rw [bX h2.length];exact c.1) (q s.toks) (fits h2 c.2)) (hs _)
  ·refine V1.dR (P:=λv=>(∀i,subscripted slice false v (.ref i)=operate [.ref i,v] (getItem v (.ref i)))->ae (t.push (lN (partValue l') (partValue u'))) (aj z) (Wp Ω A (subscriptTail value slice v (.ref s.heap.objs.size))) (VR Ω)) ex (λtk ha hs=>?_) hs
   have hp:slicePicked (toS ss) l' u' none=(List.range (kms_hi r ss.length - kms_lo l ss.length)).map (kms_lo l ss.length + ·):=by rw [<-vI,<-ml,<-mu];rfl
   refine ae.val λq=>tail_any (typeIs_str _ _ tk) PySem.F.slot_str_getitem.lookup (wpAny_getItem_str_slice (l:=l') (u:=u') (st:=none) ⟨_,Heap.get?_push_size _ rfl,rfl,rfl⟩ rfl ?_) (hs _)
   unfold sliceMade
   by_cases c:(((none:Option (Int×Tok)).map (·.1)).getD 1==1&&(slicePicked (toS ss) l' u' none).length==(toS ss).length)=true
   ·rw [if_pos c]
    have c:=eq_of_beq (Bool.and_eq_true_iff.mp c).2
    rw [hp,List.length_map,List.length_range]at c
    exact q _ _ (by rw [<-e,AU c];exact .str _ _ ha)
   ·rw [if_neg c]
    have k:j8 ss l r=(slicePicked (toS ss) l' u' none).filterMap ((toS ss).cps[·]?):=by rw [hp,pick_run,iQ];rfl
    rw [<-k]
    refine ⟨?_,q _ _ (e▸ .str _ _ λc hc=>ha c (by rw [iQ]at hc;exact List.mem_of_mem_drop (List.mem_of_mem_take hc)))⟩
    show (j8 ss l r).toArray.size<=sizeLine
    rw [List.size_toArray,iQ,List.length_take,List.length_drop]
    exact ai (Nat.min_le_right _ _) (ai (Nat.sub_le _ _) (ai (Nat.le_of_lt hl) pF))
  ·refine c9 S1 V1 (P:=λv=>(∀i,subscripted slice false v (.ref i)=operate [.ref i,v] (getItem v (.ref i)))->ae (t.push (lN (partValue l') (partValue u'))) (aj z) (Wp Ω A (subscriptTail value slice v (.ref s.heap.objs.size))) (VR Ω)) eo (λa vs h1 h2 hs=>?_) hs
   rw [<-e]
   exact ae.He (m:=.f) (vs:=slicePick vs l r none) (n:=0) (by rw [kms_pick_eq];exact fT.slice h2 l r) λq=>tail_any h1.typeIs list_getitem_lookup (wpAny_getItem_list_slice h1 (Heap.IsSliceOf.new ..) (ml▸part_of l') (mu▸part_of u') .none (λc=>nomatch c) (q s.toks) (fits h2 hl)) (hs _)
 exact ae.push (o:=lN (partValue l') (partValue u')) (w:=λE Q s'=>wpAny (model Ω.prog Ω.w) A (subscriptTail value slice v (.ref s.heap.objs.size)) Q E s') goal
end
section
variable{Ω:Cx}{Φ Φ' Kp:Facts}{σ σ':Sg}{hp hp':Hp}{h:Heap}{s s':Shared}{A:Around}{v u:Value}{x y z:aa}{α β:Type}{t:Wl Ω Kp hp s}{w:Tr β}{R:Rl β α}{b c:Bool}{ob ob':ak}{a:Addr}
theorem ae.put{r:α}(hl:hp.get x=some ob)(ha:t.σ x=some a)
  (h:∀{E:Value->Shared->Prop} {Q:β->Shared->Prop},(∀v h' k,R t.Φ t.σ v r->Heap.SameBut a s.heap h'->OR Ω t.Φ t.σ h' a ob'->Q v {s with heap:=h',toks:=k})->w E Q s):ae t (λhp=>some (r,hp.put x ob')) w R:=
 λz hp' e E Q q=>jP (P:=λz hp'=>(∀v s' (t':Wl Ω Kp hp' s'),t.le t'->R t'.Φ t'.σ v z->Q v s')->w E Q s) e (λq=>h λv h' k r m o=>q v _ ⟨t.Φ,t.σ,t.B,t.g,t.S.upd hl ha m o⟩ ⟨⟨h',k,rfl⟩,.refl,.refl⟩ r) q
theorem lobj{o:Obj}{vs:Array Value}{n:Nat}(h1:o.cls= .type "list")(h2:o.data= .seq vs n):o={cls:=.type "list",dict:=o.dict,data:=.seq vs n,slots:=o.slots}:=by
 cases o;cases h1;cases h2;rfl
theorem wg(l:Addr)(items:Array Value)(n:Nat)(b:Addr)(items2:Array Value)(n2:Nat)(dd2:Option Addr)(sl2:Array (Option Value))(hs2:items.size + items2.size<=sizeLine):
  Meets (Builtin.«list.extend» ⟨[.ref l,.ref b],[]⟩) (λ_ R s=>s.heap.get? l=some {cls:=.type "list",data:=.seq items n}/\
   s.heap.get? b=some {cls:=.type "list",dict:=dd2,data:=.seq items2 n2,slots:=sl2}/\R (.ok (.ret Value.none)) {s with heap:=s.heap.update l (Obj.mapSeq λx=>x++items2),toks:=s.toks}):=
 .of_wp λprog w A R s h=>by
  obtain ⟨hp,g,d,tk,os⟩:=s
  obtain ⟨hl,hb,h⟩:=h
  have door:¬(!items.isEmpty&&Builtin.List.listTooLong (items.size + items2.size))=true:=by
   unfold Builtin.List.listTooLong
   rw [decide_eq_false (Nat.not_lt.mpr hs2),Bool.and_false];exact Bool.false_ne_true
  have le1:items.size<=sizeLine:=ai (aJ _ _) hs2
  have le2:(items++items2).size<=sizeLine + 1:=by rw [Array.size_append];exact Nat.le_succ_of_le hs2
  have g1:=AutoSeq1.sub_list_list
  have g2:=AutoSeq1.sub_list_tuple
  have g3:=AutoSeq1.idx_int
  wp_walk using (wpAny_updateSeq hl rfl (hz:=le1) (_hz':=le2)),AutoSeq1.wpAny_loadPart' hl,AutoSeq1.wpAny_loadPart' hb
  exact ⟨_,rfl,h⟩
theorem ae.putL{xs:List aa}(V:t.V v x)(hl:hp.get x=some (.list xs)){P:Value->Prop}
  (p:∀a vs n,t.σ x=some a->s.heap.get? a=some {cls:=.type "list",data:=.seq vs n}->fT Ω t.Φ t.σ vs.toList xs->P (.ref a)):P v:=
 fV t.S V (P:=P) hl λa ha o=>o.c9.elim λvs q=>q.elim λn q=>p a vs n ha q.1 q.2
theorem tY{vs:Array Value}{xs:List aa}{n:Nat}{f:Array Value->Array Value}(e:h.get? a=some {cls:=.type "list",data:=.seq vs n})(V:fT Ω Φ σ (f vs).toList xs):OR Ω Φ σ (h.update a (Obj.mapSeq f)) a (.list xs):=
 .list (Heap.get?_update_self _ e rfl) V
theorem FL(V:t.V v x)(V':t.V u y):ae t (cz x y) (Wp Ω A (call (.builtin "list.append") [v,u])) (VR Ω):=
 ae.ge <| ae.oL (λxs eo=>ae.sm λhl=>ae.putL V eo (P:=λv=>ae t (vo λh=>h.put x (.list (xs++[y]))) (Wp Ω A (call (.builtin "list.append") [v,u])) (VR Ω)) λa vs n ha e1 W=>
  ae.put eo ha λq=>call_meets PySem.F.slot_list_append ⟨_,e1,rfl⟩ PySem.F.entry_list_append (PySem.F.args_list_append_2 _ _) (list_append a vs n u (fits W hl)) ⟨e1,q _ _ s.toks .none (Heap.SameBut.update ..) (tY e1 (by rw [Array.toList_push];exact W.append (.cons V' .nil)))⟩) ae.no
theorem bD.dropLast{α β:Type}{R:α->β->Prop}{vs:List α}{xs:List β}(h:bD R vs xs):bD R vs.dropLast xs.dropLast:=by
 rw [List.dropLast_eq_take,List.dropLast_eq_take,h.length];exact h.take _
theorem O7(V:t.V v x):ae t (DA x) (Wp Ω A (call (.builtin "list.pop") [v])) (VR Ω):=
 ae.ge <| ae.oL (λxs eo=>by
  cases e2:xs.getLast? with
  | none=>exact ae.no
  | some y=>
   refine ae.sm λhl=>ae.putL V eo (P:=λv=>ae t (λh=>some (y,h.put x (.list xs.dropLast))) (Wp Ω A (call (.builtin "list.pop") [v])) (VR Ω)) λa vs n ha e1 W=>?_
   obtain ⟨v',k1,k2⟩:=W.at (k:=vs.size - 1) (by rw [bX W.length,<-List.getLast?_eq_getElem?];exact e2)
   exact ae.put eo ha λq=>call_meets PySem.F.slot_list_pop ⟨_,e1,rfl⟩ PySem.F.entry_list_pop (PySem.F.args_list_pop_1 _) (PySem.MeetsSeq.list_pop_last a vs n v' k1 (fits W hl)) ⟨e1,q _ _ s.toks k2 (Heap.SameBut.update ..) (tY e1 (by
     rw [Array.eraseIdxIfInBounds,dif_pos (Array.getElem?_eq_some_iff.mp k1).1,Array.toList_eraseIdx,<-Array.length_toList,List.eraseIdx_length_sub_one];exact W.dropLast))⟩) ae.no
theorem EZ{ys:List aa}(V:t.V v x)(V':t.V u (.list ys)):ae t (lx x ys) (Wp Ω A (call (.builtin "list.extend") [v,u])) (VR Ω):=
 ae.ge <| ae.oL (λxs eo=>ae.sm λhl=>ae.putL V eo (P:=λv=>ae t (vo λh=>h.put x (.list (xs++ys))) (Wp Ω A (call (.builtin "list.extend") [v,u])) (VR Ω)) λa vs n ha e1 W=>
  c9 t.S V' rfl (P:=λu=>ae t (vo λh=>h.put x (.list (xs++ys))) (Wp Ω A (call (.builtin "list.extend") [.ref a,u])) (VR Ω)) λb ws ⟨o2,k1,k2,n2,k3⟩ W2=>
  ae.put eo ha λq=>call_meets PySem.F.slot_list_extend ⟨_,e1,rfl⟩ PySem.F.entry_list_extend (PySem.F.args_list_extend_2 _ _) (wg a vs n b ws n2 _ _ (xO W W2 hl))
   ⟨e1,k1.trans (congrArg some (lobj k2 k3)),q _ _ s.toks .none (Heap.SameBut.update ..) (tY e1 (by rw [Array.toList_append];exact W.append W2))⟩) ae.no
theorem EW{κ κ':Type}{f:κ->κ'}{vs:List (κ'×Value)}{xs:List (κ×aa)}(V:bG (VR Ω Φ σ) f vs xs)(h:xs.length < LF):vs.length<=sizeLine:=ai (Nat.le_of_lt (V.length▸h)) pF
theorem sJ{uz:Value}(V:t.V v x)(V':t.V u y)(V'':t.V uz z):ae t (de x y z) (Wp Ω A (setItem v u uz)) (λ_ _ _ _=>True):=
 ae.ge <| ae.ie (λkvs eo=>ae.iH (λss ey=>ae.sm λhl=>V'.dR (P:=λu=>ae t (vo λh=>h.put x (.sd (sset kvs ss z))) (Wp Ω A (setItem v u uz)) (λ_ _ _ _=>True)) ey λtk _=>
   fV t.S V eo (P:=λv=>ae t (vo λh=>h.put x (.sd (sset kvs ss z))) (Wp Ω A (setItem v (.str (toS ss) tk) uz)) (λ_ _ _ _=>True)) λa ha o=>o.iS.elim λkvs' k=>
   ae.put eo ha λq=>wpAny_setItem_pairs (strKind_is Ω.prog Ω.w (toS ss) tk) k.1.2 (λh' m1 m2=>q _ _ _ trivial m2 (.sd ⟨k.1.1,m1⟩ (k.2.set fm ss V'' (DictOf.nodup k.1.2)))) (EW k.2 hl)) ae.no) <|
 ae.oF (λkvs eo=>ae.gu (λi ey=>ae.sm λhl=>V'.cQ (P:=λu=>ae t (vo λh=>h.put x (.eg (kJ kvs i z))) (Wp Ω A (setItem v u uz)) (λ_ _ _ _=>True)) ey λtk=>
   fV t.S V eo (P:=λv=>ae t (vo λh=>h.put x (.eg (kJ kvs i z))) (Wp Ω A (setItem v (.int i tk) uz)) (λ_ _ _ _=>True)) λa ha o=>o.kM.elim λkvs' k=>
   ae.put eo ha λq=>wpAny_setItem_pairs (intKind_is Ω.prog Ω.w i tk) k.1.2 (λh' m1 m2=>q _ _ _ trivial m2 (.eg ⟨k.1.1,m1⟩ (k.2.set (f:=id) (λe=>e) i V'' (DictOf.nodup k.1.2)))) (EW k.2 hl)) ae.no) ae.no
theorem Qp{ud:Value}{yd:aa}(V:t.V v x)(V':t.V u y)(V'':t.V ud yd)(e:yF hp x y yd=some z):ae t (aj z) (Wp Ω A (call (.builtin "dict.get") [v,u,ud])) (VR Ω):=by
 refine oE e (λkvs e1 e=>j9 e (λss ey e=>?_) aA) λe=>qv e (λkvs e1 e=>fQ e (λi ey e=>?_) aA) aA
 ·exact V'.dR (P:=λu=>ae t (aj z) (Wp Ω A (call (.builtin "dict.get") [v,u,ud])) (VR Ω)) ey λtk _=>iS t.S V (P:=λv=>ae t (aj z) (Wp Ω A (call (.builtin "dict.get") [v,.str (toS ss) tk,ud])) (VR Ω)) e1 λd kvs' hn h1 h2=>
   ae.val λq=>call_meetsIn PySem.F.slot_dict_get h1.typeIs PySem.F.entry_dict_get (PySem.F.args_dict_get_3 _ _ _) (meets_dict_get_default _ d (strKind_is Ω.prog Ω.w (toS ss) tk) (beq_false_of_ne hn) ud) ⟨_,h1.mapOf,q _ _ (ay e▸h2.getD fm ss V'')⟩
 ·exact V'.cQ (P:=λu=>ae t (aj z) (Wp Ω A (call (.builtin "dict.get") [v,u,ud])) (VR Ω)) ey λtk=>kM t.S V (P:=λv=>ae t (aj z) (Wp Ω A (call (.builtin "dict.get") [v,.int i tk,ud])) (VR Ω)) e1 λd kvs' hn h1 h2=>
   ae.val λq=>call_meetsIn PySem.F.slot_dict_get h1.typeIs PySem.F.entry_dict_get (PySem.F.args_dict_get_3 _ _ _) (meets_dict_get_default _ d (intKind_is Ω.prog Ω.w i tk) (beq_false_of_ne hn) ud) ⟨_,h1.mapOf,q _ _ (ay e▸h2.getD (f:=id) (λe=>e) i V'')⟩
theorem Lc{ud:Value}{yd:aa}{ss:Sx}(V:t.V v x)(V':t.V u (.str ss))(V'':t.V ud yd):ae t (vR x ss yd) (Wp Ω A (call (.builtin "dict.pop") [v,u,ud])) (VR Ω):=
 ae.ge <| ae.ie (λkvs eo=>ae.sm λhl=>V'.dR rfl (P:=λu=>ae t (oS (bZ kvs ss) (λv h=>some (v,h.put x (.sd (GR kvs ss)))) (aj yd)) (Wp Ω A (call (.builtin "dict.pop") [v,u,ud])) (VR Ω)) λtk _=>
   fV t.S V eo (P:=λv=>ae t (oS (bZ kvs ss) (λv h=>some (v,h.put x (.sd (GR kvs ss)))) (aj yd)) (Wp Ω A (call (.builtin "dict.pop") [v,.str (toS ss) tk,ud])) (VR Ω)) λa ha o=>o.iS.elim λkvs' k=>by
  have g:=k.2.get fm ss
  cases e:bZ kvs ss with
  | some z=>
   exact (g.1 e).elim λv' r=>ae.put eo ha λq=>call_meetsIn PySem.F.slot_dict_pop (Heap.DictOf.typeIs (show s.heap.DictOf _ _ _ from k.1.2)) PySem.F.entry_dict_pop (PySem.F.args_dict_pop_3 _ _ _) (meets_dict_pop_there (knd:=strKind Ω.prog Ω.w) (d:=a) (hkey:=strKind_is Ω.prog Ω.w (toS ss) tk) (rest:=[ud]) (hrest:=.inr ⟨_,rfl⟩) (hpart:=rfl))
    ⟨_,_,k.1.2,EW k.2 hl,r.1,λh' m1 m2=>q _ _ _ r.2 m2 (.sd ⟨k.1.1,m1⟩ (k.2.del fm ss (DictOf.nodup k.1.2)))⟩
  | none=>
   exact ae.val λq=>call_meetsIn PySem.F.slot_dict_pop (Heap.DictOf.typeIs (show s.heap.DictOf _ _ _ from k.1.2)) PySem.F.entry_dict_pop (PySem.F.args_dict_pop_3 _ _ _) (meets_dict_pop_default (knd:=strKind Ω.prog Ω.w) (d:=a) (hkey:=strKind_is Ω.prog Ω.w (toS ss) tk) (hd:=beq_false_of_ne k.1.1) (hpart:=rfl) (dflt:=ud))
    ⟨_,k.1.2,g.2 e,q _ _ V''⟩) ae.no
end
theorem qU{sep x y:Sx}{r:List Sx}:gi sep (x::y::r)=x++sep++gi sep (y::r):=rfl
theorem qS(sep:Sx):∀l:List Sx,PySem.Str.join (toS sep) (l.map toS)=toS (gi sep l)
 | []=>rfl
 | [x]=>rfl
 | x::y::r=>by
  rw [qU,<-tL,<-tL,<-qS sep (y::r)];rfl
noncomputable def fG(x:Nat):List Sx->List Sx
 | []=>[[x]]
 | w::ws=>(x::w)::ws
theorem j5{c x:Nat}{r:Sx}:cN c (x::r)=if x=c then []::cN c r else fG x (cN c r):=by
 show (if x=c then _ else _)=_
 by_cases h:x=c
 ·rw [if_pos h,if_pos h]
 ·rw [if_neg h,if_neg h];cases cN c r <;> rfl
theorem kX(c:Nat)(x:Sx):cN c x≠[]:=List.rec (motive:=λx=>cN c x≠[]) (λe=>nomatch e) (λa r _ e=>by
 rw [j5]at e
 by_cases h:a=c
 ·rw [if_pos h]at e;cases e
 ·rw [if_neg h]at e;cases q:cN c r <;> rw [q]at e <;> cases e) x
theorem En{c x:Nat}{l:List Sx}(h:l≠[]):gi [c] (fG x l)=x::gi [c] l:=by
 cases l with
 | nil=>exact absurd rfl h
 | cons w ws=>cases ws <;> rfl
theorem vD(c:Nat)(x:Sx):gi [c] (cN c x)=x:=List.rec (motive:=λx=>gi [c] (cN c x)=x) rfl (λa r ih=>by
 rw [j5]
 by_cases h:a=c
 ·rw [if_pos h,h]
  cases q:cN c r with
  | nil=>exact absurd q (kX c r)
  | cons w ws=>rw [q]at ih;show []++[c]++gi [c] (w::ws)=_;rw [ih];rfl
 ·rw [if_neg h,En (kX c r),ih]) x
theorem qh{P:Nat->Prop}(c:Nat)(x:Sx):(∀d∈x,d≠c->P d)->∀p∈cN c x,∀d∈p,P d:=List.rec (motive:=λx=>(∀d∈x,d≠c->P d)->∀p∈cN c x,∀d∈p,P d) (λ_ p hp d hd=>by
 rw [List.mem_singleton.mp hp]at hd;cases hd) (λa r ih h p hp d hd=>by
 have ih:=ih λd q=>h d (bB _ q)
 rw [j5]at hp
 by_cases e:a=c
 ·rw [if_pos e]at hp
  rcases List.mem_cons.mp hp with q | q
  ·rw [q]at hd;cases hd
  ·exact ih p q d hd
 ·rw [if_neg e]at hp
  cases q:cN c r with
  | nil=>exact absurd q (kX c r)
  | cons w ws=>
   rw [q]at hp ih
   rcases List.mem_cons.mp hp with k | k
   ·rw [k]at hd
    rcases List.mem_cons.mp hd with k2 | k2
    ·exact k2▸h a aF e
    ·exact ih w aF d k2
   ·exact ih p (bB _ k) d hd) x
theorem H6{c:Nat}{x y:Sx}(a:Sx):∀b:Sx,c∉a->c∉b->a++c::x=b++c::y->a=b/\x=y:=List.rec (motive:=λa=>∀b:Sx,c∉a->c∉b->a++c::x=b++c::y->a=b/\x=y)
 (λb _ hb e=>match b,hb,e with
  | [],_,e=>⟨rfl,(List.cons.inj e).2⟩
  | _::_,hb,e=>absurd ((List.cons.inj e).1▸aF) hb) (λk a ih b ha hb e=>match b,hb,e with
  | [],_,e=>absurd ((List.cons.inj e).1▸aF) ha
  | _::bs,hb,e=>have q:=ih bs (λq=>ha (bB _ q)) (λq=>hb (bB _ q)) (List.cons.inj e).2;⟨by rw [(List.cons.inj e).1,q.1],q.2⟩) a
theorem m9{c:Nat}:∀{P Q:List Sx},P≠[]->Q≠[]->(∀p∈P,c∉p)->(∀p∈Q,c∉p)->gi [c] P=gi [c] Q->P=Q
 | [],_,h,_,_,_,_=>absurd rfl h
 | _,[],_,h,_,_,_=>absurd rfl h
 | [p],[q],_,_,_,_,e=>congrArg (·::[]) e
 | [p],q::q'::Q,_,_,hP,_,e=>absurd ((show p=_ from e)▸cu _ (c6 _ (jN c))) (hP p aF)
 | p::p'::P,[q],_,_,_,hQ,e=>absurd ((show q=_ from e.symm)▸cu _ (c6 _ (jN c))) (hQ q aF)
 | p::p'::P,q::q'::Q,_,_,hP,hQ,e=>by
  rw [qU,qU,cL,cL]at e
  obtain ⟨e1,e2⟩:=H6 _ _ (hP p aF) (hQ q aF) e
  rw [e1,m9 (P:=p'::P) (Q:=q'::Q) (λh=>nomatch h) (λh=>nomatch h) (λx hx=>hP x (bB _ hx)) (λx hx=>hQ x (bB _ hx)) e2]
theorem Hh(l:List PySem.Str):(l.map (·.cps.toList)).map toS=l:=by rw [List.map_map];exact List.map_id l
theorem CU(c:Nat)(x:Sx):(Txt.split (toS x) (toS [c])).map (·.cps.toList)=cN c x:=by
 refine m9 (λq=>?_) (kX c x) (λp hp=>(List.mem_map.mp hp).elim λq k=>k.2▸PySem.StrLaws.split_free (toS x) c q k.1) (λp hp q=>qh c x (P:=(·≠c)) (λ_ _ h=>h) p hp c q rfl) (fm ?_)
 ·have:=split_pos (toS x) (toS [c])
  rw [List.map_eq_nil_iff.mp q]at this
  exact absurd this (Nat.lt_irrefl 0)
 ·rw [vD,<-qS,Hh]
  exact PySem.StrLaws.join_split (toS x) (toS [c])
theorem qt:∀p s:Sx,cv p s=(decide (p.length<=s.length)&&(s.take p.length==p))
 | [],s=>rfl
 | a::p,[]=>rfl
 | a::p,b::s=>by
  show (decide (a=b)&&cv p s)=(decide (p.length + 1<=s.length + 1)&&(b::s.take p.length==a::p))
  rw [qt p s,List.cons_beq_cons,decide_eq_decide.mpr Nat.succ_le_succ_iff,<-Bool.and_assoc,<-Bool.and_assoc,Bool.and_comm (decide (p.length<=s.length)),show (b==a)=decide (a=b)from decide_eq_decide.mpr eq_comm]
section
variable{Ω:Cx}{Φ Φ' Kp:Facts}{σ σ':Sg}{hp hp':Hp}{h:Heap}{s s':Shared}{A:Around}{v u:Value}{x y z:aa}{α β:Type}{t:Wl Ω Kp hp s}{w:Tr β}{R:Rl β α}{b c:Bool}{ob ob':ak}{a:Addr}
theorem CR{p q:Sx}(V:t.V v (.str p))(V':t.V u (.str q)):ae t (aj (.bool (cv q p))) (Wp Ω A (call (.builtin "str.startswith") [v,u])) (VR Ω):=
 V.dR rfl (P:=λv=>ae t (aj (.bool (cv q p))) (Wp Ω A (call (.builtin "str.startswith") [v,u])) (VR Ω)) λtk _=>V'.dR rfl (P:=λu=>ae t (aj (.bool (cv q p))) (Wp Ω A (call (.builtin "str.startswith") [.str (toS p) tk,u])) (VR Ω)) λtk' _=>
 ae.val λk=>call_gives PySem.F.slot_str_startswith (typeIs_str _ _ _) PySem.F.entry_str_startswith (PySem.F.args_str_startswith_2 _ _) (gives_str_startswith _ _ _ _) (by
  have e:(decide (0 + (toS q).length<=(toS p).length)&&Builtin.Str.subAt (toS p) (toS q) 0)=cv q p:=by
   rw [PySem.StrLaws.subAt_eq,qt,Nat.zero_add];rfl
  show _
  rw [<-e]at k
  exact k _ s.toks (.bool _))
theorem vB{vs:List Value}{xs:List aa}(V:fT Ω Φ σ vs xs):∀{l:List Sx},strsOf xs=some l->StrsAre vs (l.map toS)/\∀p∈l,Cs p:=
 bD.rec (motive:=λvs xs _=>∀{l:List Sx},strsOf xs=some l->StrsAre vs (l.map toS)/\∀p∈l,Cs p) (λ{l} e=>ay e▸⟨.nil,λ_ h=>(nomatch h)⟩) (λ{v x vs xs} a _ ih l e=>
  fv e (λst e1 e=>fv e (λls e2 e=>j9 e1 (λi ex e1=>a.dR ex (P:=λv=>StrsAre (v::vs) (l.map toS)/\∀p∈l,Cs p) λtk ha=>by
   have k:=ih e2
   rw [<-ay e,<-ay e1]
   exact ⟨.cons _ tk k.1,λp hp=>(List.mem_cons.mp hp).elim (λq=>q▸ha) (k.2 p)⟩) aA) aA) aA) V
theorem oT{sep:Sx}(h:Cs sep):∀{l:List Sx},(∀p∈l,Cs p)->Cs (gi sep l)
 | [],_=>λ_ hc=>(nomatch hc)
 | [x],hl=>hl x aF
 | x::y::r,hl=>λc hc=>(List.mem_append.mp hc).elim (λhc=>(List.mem_append.mp hc).elim (hl x aF c) (h c)) (oT h (l:=y::r) (λp hp=>hl p (bB _ hp)) c)
theorem L7{sx:Sx}(V:t.V v (.str sx))(V':t.V u y)(e:s8 hp sx y=some z):ae t (aj z) (Wp Ω A (call (.builtin "str.join") [v,u])) (VR Ω):=by
 refine fv e (λxs e1 e=>fv e (λl e2 e=>iJ e λc e=>?_) aA) aA
 refine V.dR rfl (P:=λv=>ae t (aj z) (Wp Ω A (call (.builtin "str.join") [v,u])) (VR Ω)) λtk ha=>?_
 have hok:((l.map toS).map (·.length)).sum + (l.map toS).length * (toS sx).length<=16777216:=by
  rw [List.map_map,List.length_map]
  exact ai (Nat.le_of_lt (of_decide_eq_true c)) (by decide:LF<=16777216)
 have e5:Txt.join (toS sx) (l.map toS)=toS (gi sx l):=(PySem.StrLaws.glued_eq_join _ _).trans (qS _ _)
 exact xW t.S V' (P:=λu=>ae t (aj z) (Wp Ω A (call (.builtin "str.join") [.str (toS sx) tk,u])) (VR Ω)) e1 (λd vs h1 h2=>have k:=vB h2 e2;ae.val λq=>join_list h1 k.1 hok λt' k'=>q _ _ (by rw [e5,<-ay e];exact .str _ _ (oT ha k.2)))
  λd vs h1 h2=>have k:=vB h2 e2;ae.val λq=>join_tuple h1 k.1 hok λt' k'=>q _ _ (by rw [e5,<-ay e];exact .str _ _ (oT ha k.2))
theorem fT.texts(l:List (PySem.Str×Tok)):(∀p∈l,Cs p.1.cps.toList)->fT Ω Φ σ (strValues l) (l.map λp=>.str p.1.cps.toList):=
 List.rec (motive:=λl=>(∀p∈l,Cs p.1.cps.toList)->fT Ω Φ σ (strValues l) (l.map λp=>.str p.1.cps.toList)) (λ_=>.nil) (λp l ih h=>by
  show fT Ω Φ σ (.str (toS p.1.cps.toList) p.2::strValues l) (.str p.1.cps.toList::_)
  exact .cons (.str _ _ (h p aF)) (ih λq hq=>h q (bB _ hq))) l
theorem GF{sx:Sx}{c:Nat}(V:t.V v (.str sx))(V':t.V u (.str [c]))(hs:sx.length < LF):ae t (aj (.list ((cN c sx).map .str))) (Wp Ω A (call (.builtin "str.split") [v,u])) (VR Ω):=by
 refine V.dR rfl (P:=λv=>ae t (aj (.list ((cN c sx).map .str))) (Wp Ω A (call (.builtin "str.split") [v,u])) (VR Ω)) λtk ha=>V'.dR rfl (P:=λu=>ae t (aj (.list ((cN c sx).map .str))) (Wp Ω A (call (.builtin "str.split") [.str (toS sx) tk,u])) (VR Ω)) λtk' _=>?_
 have fin:∀l:List (PySem.Str×Tok),l.map (·.1)=Txt.split (toS sx) (toS [c])->(∀{E:Value->Shared->Prop} {Q:Value->Shared->Prop},(∀k,Q (.ref s.heap.objs.size) {s with heap:=s.heap.push {cls:=.type "list",data:=.seq (strValues l).toArray},toks:=k})->wpAny (model Ω.prog Ω.w) A (call (.builtin "str.split") [.str (toS sx) tk,.str (toS [c]) tk']) Q E s)->
   ae t (aj (.list ((cN c sx).map .str))) (Wp Ω A (call (.builtin "str.split") [.str (toS sx) tk,.str (toS [c]) tk'])) (VR Ω):=λl hl k=>by
  have e:=(congrArg (·.map (·.cps.toList)) hl).trans (CU c sx)
  rw [List.map_map]at e
  refine ae.He (m:=.f) (vs:=(strValues l).toArray) (n:=0) ?_ k
  rw [<-e,List.map_map]
  exact fT.texts l λp hp=>λd hd=>qh (P:=(· < 128)) c sx (λd h _=>ha d h) _ (e▸List.mem_map.mpr ⟨p,hp,rfl⟩) d hd
 have le:=split_le (toS sx) (toS [c])
 have e0:((toS [c]).length==0)=false:=rfl
 have hle:(Txt.split (toS sx) (toS [c])).length<=sizeLine:=ai le (ai (gN (Nat.le_of_lt hs) 2) (by rw [sizeLine_eq];decide))
 cases h1:(decide ((toS sx).length < (toS [c]).length) ||decide (Builtin.Str.strKind (toS sx) < Builtin.Str.strKind (toS [c])))with
 | false=>
  cases hf:(Builtin.Str.occurrences (toS sx) (toS [c]) 0 (toS sx).length ((toS sx).length + 1)).isEmpty with
  | false=>
   have e:Txt.split (toS sx) (toS [c])=Builtin.Str.partsBetween (toS sx) (Builtin.Str.occurrences (toS sx) (toS [c]) 0 (toS sx).length ((toS sx).length + 1)) (toS [c]).length:=by
    unfold Txt.split
    rw [if_neg (by rw [h1];decide),if_neg (by rw [hf];decide)]
   refine fin _ ((numbered_texts s.toks _).trans e.symm) λ{E Q} q=>call_meets PySem.F.slot_str_split (typeIs_str _ _ _) PySem.F.entry_str_split (PySem.F.args_str_split_2 _ _) (meets_str_split_sep _ _ tk tk' h1 e0 hf (ai (Nat.le_of_lt hs) pF) (e▸hle)) ?_
   show Q (.ref s.heap.objs.size) {s with toks:=_,heap:=s.heap.push {cls:=.type "list",data:=.seq (strsFrom s.toks _).toArray}}
   rw [strsFrom_eq]
   exact q _
  | true=>exact fin [(toS sx,tk)] (by unfold Txt.split;rw [if_neg (by rw [h1];decide),if_pos hf];rfl) λq=>call_meets PySem.F.slot_str_split (typeIs_str _ _ _) PySem.F.entry_str_split (PySem.F.args_str_split_2 _ _) (meets_str_split_not_found _ _ tk tk' h1 e0 hf) (q s.toks)
 | true=>exact fin [(toS sx,tk)] (by unfold Txt.split;rw [if_pos h1];rfl) λq=>call_meets PySem.F.slot_str_split (typeIs_str _ _ _) PySem.F.entry_str_split (PySem.F.args_str_split_2 _ _) (meets_str_split_cannot_occur _ _ tk tk' h1) (q s.toks)
end
section
variable{Ω:Cx}{Φ Φ' Kp:Facts}{σ σ':Sg}{hp hp':Hp}{h:Heap}{s s':Shared}{A:Around}{v u:Value}{x y z:aa}{α β:Type}{t:Wl Ω Kp hp s}{w:Tr β}{R:Rl β α}{b c:Bool}{ob ob':ak}{a:Addr}
theorem ae.ext{r:α}(h:∀{E:Value->Shared->Prop} {Q:β->Shared->Prop},(∀v h' k,(∀b o,s.heap.get? b=some o->h'.get? b=some o)->R t.Φ t.σ v r->Q v {s with heap:=h',toks:=k})->w E Q s):ae t (aj r) w R:=
 ae.fin λE Q q=>h λv h' k m r=>q v _ ⟨t.Φ,t.σ,t.B,t.g,t.S.ext m⟩ ⟨⟨h',k,rfl⟩,.refl,.refl⟩ r
theorem BU{vs:List Value}{xs:List aa}(V:fT Ω Φ σ vs xs):∀{l:List Bool},boolsOf xs=some l->vs=l.map .bool:=
 bD.rec (motive:=λvs xs _=>∀{l:List Bool},boolsOf xs=some l->vs=l.map .bool) (λ{l} e=>ay e▸rfl) (λ{v x vs xs} a _ ih l e=>
  fv e (λst e1 e=>fv e (λls e2 e=>DG e1 (λi ex e1=>a.uY ex (P:=λv=>v::vs=l.map .bool) (by rw [<-ay e,<-ay e1,ih e2];rfl)) aA) aA) aA) V
theorem wA{vs:List Value}{xs:List aa}(V:fT Ω Φ σ vs xs):∀{l:List Int},intsOf xs=some l->IntsAre vs l/\∃ps:List (Int×Tok),vs=ps.map (λp=>.int p.1 p.2)/\ps.map (·.1)=l:=
 bD.rec (motive:=λvs xs _=>∀{l:List Int},intsOf xs=some l->IntsAre vs l/\∃ps:List (Int×Tok),vs=ps.map (λp=>.int p.1 p.2)/\ps.map (·.1)=l) (λ{l} e=>ay e▸⟨.nil,[],rfl,rfl⟩) (λ{v x vs xs} a _ ih l e=>
  fv e (λst e1 e=>fv e (λls e2 e=>fQ e1 (λi ex e1=>a.cQ ex (P:=λv=>IntsAre (v::vs) l/\∃ps:List (Int×Tok),v::vs=ps.map (λp=>.int p.1 p.2)/\ps.map (·.1)=l) λtk=>by
   obtain ⟨k,ps,k1,k2⟩:=ih e2
   rw [<-ay e,<-ay e1]
   exact ⟨.cons _ _ k,(i,tk)::ps,by rw [k1];rfl,by rw [<-k2];rfl⟩) aA) aA) aA) V
theorem sM{l:List Bool}:(List.range l.length).map (λi=>l.getD i false)=l:=by
 refine List.ext_getElem (by rw [List.length_map,List.length_range]) λi h1 h2=>?_
 rw [List.getElem_map,List.getElem_range,List.getD_eq_getElem?_getD,List.getElem?_eq_getElem h2];rfl
theorem any_range{l:List Bool}:(List.range l.length).any (λi=>l.getD i false)=l.any id:=(congrArg (List.any · id) (sM (l:=l))).symm.trans List.any_map |>.symm
theorem all_range{l:List Bool}:(List.range l.length).all (λi=>l.getD i false)=l.all id:=(congrArg (List.all · id) (sM (l:=l))).symm.trans List.all_map |>.symm
theorem TruthOf.bools{l:List Bool}{items:Array Value}(h:items.toList=l.map .bool):TruthOf Ω.prog Ω.w A (λi v=>items[i]?=some v) (λi=>l.getD i false):=λi v s Q E e q=>by
 have e:items[i]?=some v:=e
 rw [<-Array.getElem?_toList,h,List.getElem?_map]at e
 obtain ⟨b,hb,rfl⟩:=Option.map_eq_some_iff.mp e
 refine wpAny_truthy_bool ?_
 have q:Q (l.getD i false) s:=q
 rw [List.getD_eq_getElem?_getD,hb]at q
 exact q
theorem M5(V:t.V v x)(e:tw hp .len x=some z):ae t (aj z) (Wp Ω A (call (.builtin "len") [v])) (VR Ω):=by
 refine mv e (λxs ex e=>iE e λhl e=>?_) λe=>vU e (λxs eo e=>iE e λhl e=>?_) λe=>oE e (λxs eo e=>iE e λhl e=>?_) aA
 ·exact mf t.S V ex (P:=λv=>ae t (aj z) (Wp Ω A (call (.builtin "len") [v])) (VR Ω)) λa vs h1 h2=>ae.val λq=>PyProof.Rows.len_tuple h1 (wb (bX h2.length▸hl)) (q _ _ (by rw [<-e,bX h2.length];exact .int _ _))
 ·exact c9 t.S V eo (P:=λv=>ae t (aj z) (Wp Ω A (call (.builtin "len") [v])) (VR Ω)) λa vs h1 h2=>ae.val λq=>PySem.Calls.call_len_list h1 (wb (bX h2.length▸hl)) (q _ _ (by rw [<-e,bX h2.length];exact .int _ _))
 ·exact iS t.S V eo (P:=λv=>ae t (aj z) (Wp Ω A (call (.builtin "len") [v])) (VR Ω)) λa vs hn h1 h2=>ae.val λq=>call_len_dict (beq_false_of_ne hn) h1 (wb (h2.length▸hl)) (q _ _ (by rw [<-e,h2.length];exact .int _ _))
theorem Ly{a:Addr}{vs:Array Value}(h:s.heap.IsList a vs):a≠s.heap.objs.size:=λq=>h.elim λo k=>c8 (q▸dc s.heap) k.1
theorem Au{f:List Bool->Bool}{g:Nat->(Nat->Bool)->Bool}{nm:String}(hh:A.handled=none)(V:t.V v x)(e:x.pQ (λxs=>oS (boolsOf xs) (λl=>some (.bool (f l))) none) none=some z)(hg:∀l:List Bool,g l.length (λi=>l.getD i false)=f l)
  (k:∀{x:Value} {E} {Q:Value->Shared->Prop},wpAny (model Ω.prog Ω.w) A.in1 (pyIter x) (λit s₂=>∃I fp wr n P St tr,it= .ref I/\Walks Ω.prog Ω.w A.in1 I fp wr n P St/\St 0 s₂.heap/\TruthOf Ω.prog Ω.w A.in1 P tr/\
   ∀h' tk,(∀b o,b∉wr->s₂.heap.get? b=some o->h'.get? b=some o)->Q (.bool (g n tr)) {s₂ with heap:=h',toks:=tk}) E s->wpAny (model Ω.prog Ω.w) A (call (.builtin nm) [x]) Q E s):ae t (aj z) (Wp Ω A (call (.builtin nm) [v])) (VR Ω):=
 oC e (λxs ex e=>fv e (λl e1 e=>c9 t.S V (P:=λv=>ae t (aj z) (Wp Ω A (call (.builtin nm) [v])) (VR Ω)) (ex▸rfl:bH hp x=some (.list xs)) λa vs h1 h2=>ae.ext λq=>by
  have hb:=BU h2 e1
  have hsz:vs.size=l.length:=by rw [<-Array.length_toList,hb,List.length_map]
  refine k (wpAny_pyIter_list h1 ⟨_,_,_,_,_,_,_,rfl,Walks.list (A:=A.in1) hh _ a (Ly h1) vs,⟨⟨_,Heap.get?_push_size _ rfl,rfl,rfl⟩,h1.push _⟩,TruthOf.bools hb,λh' tk k=>?_⟩)
  rw [hsz,hg]
  exact q _ _ tk (λb o e=>k b o (λhm=>c8 (dc s.heap) (List.mem_singleton.mp hm▸e)) (Heap.get?_push_of_some _ e)) (ay e▸ .bool _)) aA) aA
theorem Q6(hh:A.handled=none)(V:t.V v x)(e:tw hp .any x=some z):ae t (aj z) (Wp Ω A (call (.builtin "any") [v])) (VR Ω):=Au (f:=(·.any id)) (g:=λn tr=>(List.range n).any tr) hh V e (λ_=>any_range) call_any_walk
theorem Q7(hh:A.handled=none)(V:t.V v x)(e:tw hp .all x=some z):ae t (aj z) (Wp Ω A (call (.builtin "all") [v])) (VR Ω):=Au (f:=(·.all id)) (g:=λn tr=>(List.range n).all tr) hh V e (λ_=>all_range) call_all_walk
theorem fT.ofInts{vs:List Value}{l:List Int}(h:IntsAre vs l):fT Ω Φ σ vs (l.map .int):=by
 induction h with
 | nil=>exact .nil
 | cons n t r ih=>exact .cons (.int n t) ih
theorem insI_perm(x:Int)(l:List Int):(insI x l).Perm (x::l):=List.rec (motive:=λl=>(insI x l).Perm (x::l)) (.refl _) (λy r ih=>by
 show (if x<=y then _ else _:List Int).Perm _
 by_cases c:x<=y
 ·rw [if_pos c]
 ·rw [if_neg c];exact (ih.cons y).trans (.swap x y r)) l
theorem sortI_perm(l:List Int):(sortI l).Perm l:=List.rec (motive:=λl=>(sortI l).Perm l) (.refl _) (λx r ih=>(insI_perm x _).trans (ih.cons x)) l
theorem wC(x:Int)(l:List Int):l.Pairwise (·<=·)->(insI x l).Pairwise (·<=·):=List.rec (motive:=λl=>l.Pairwise (·<=·)->(insI x l).Pairwise (·<=·)) (λ_=>List.pairwise_singleton _ _) (λy r ih h=>by
 have h':=List.pairwise_cons.mp h
 show (if x<=y then _ else _:List Int).Pairwise _
 by_cases c:x<=y
 ·rw [if_pos c];exact List.pairwise_cons.mpr ⟨λz hz=>(List.mem_cons.mp hz).elim (λq=>q▸c) λhz=>Int.le_trans c (h'.1 z hz),h⟩
 ·rw [if_neg c];exact List.pairwise_cons.mpr ⟨λz hz=>(List.mem_cons.mp ((insI_perm x r).mem_iff.mp hz)).elim (λq=>q▸Int.le_of_lt (Int.not_le.mp c)) (h'.1 z),ih h'.2⟩) l
theorem tW(l:List Int):(sortI l).Pairwise (·<=·):=List.rec (motive:=λl=>(sortI l).Pairwise (·<=·)) .nil (λx r ih=>wC x _ ih) l
theorem CY(V:t.V v x)(e:tw hp .sorted x=some z):ae t (aj z) (Wp Ω A (call (.builtin "sorted") [v])) (VR Ω):=
 oC e (λxs ex e=>iJ e λc e=>fv e (λl e1 e=>c9 t.S V (P:=λv=>ae t (aj z) (Wp Ω A (call (.builtin "sorted") [v])) (VR Ω)) (ex▸rfl:bH hp x=some (.list xs)) λa vs h1 h2=>λz' hp' e' E Q q=>by
  refine sorted_ints (vs:=vs.toList) h1 (wA h2 e1).1 (by rw [h2.length];exact bY c) λout ns' i1 i2 i3=>?_
  obtain ⟨n',hn'⟩:=sortedAll_at s.heap vs.toList out
  have N:=t.S.ff (a:=s.heap.objs.size + 1) (by
   cases q:s.heap.get? (s.heap.objs.size + 1)with
   | none=>rfl
   | some o=>exact absurd (Heap.lt_size q) (Nat.not_lt.mpr (dJ _)))
  have S':=(t.S.ext (h':=sortedAll s.heap vs.toList out) λb o e=>sortedAll_old e).zR N
  refine jP (P:=λz' hp'=>(∀v s' (t':Wl Ω Kp hp' s'),t.le t'->VR Ω t'.Φ t'.σ v z'->Q v s')->Q _ _) e' (λq=>q _ _ ⟨_,t.σ,t.B,t.g.trans Facts.cX,S'⟩ ⟨⟨_,s.toks,rfl⟩,Facts.cX,.refl⟩ ?_) q
  rw [<-ay e,List.Perm.eq_of_pairwise (le:=(·<=·)) (λa b _ _ h k=>Int.le_antisymm h k) (tW l) i3 ((sortI_perm l).trans i2.symm)]
  exact .list (.inr ⟨jN _,hn'⟩) rfl rfl (fT.ofInts i1)) aA) aA
end
theorem Bf(r:List Int):∀a:Int,(oJ a r∈a::r)/\∀b∈a::r,b<=oJ a r:=List.rec (motive:=λr=>∀a:Int,(oJ a r∈a::r)/\∀b∈a::r,b<=oJ a r) (λa=>⟨jN _,λb hb=>List.mem_singleton.mp hb▸Int.le_refl _⟩) (λx r ih a=>by
 show (oJ (if a < x then x else a) r∈_)/\∀b∈_,b<=oJ (if a < x then x else a) r
 by_cases c:a < x
 ·rw [if_pos c]
  exact ⟨bB _ (ih x).1,λb hb=>(List.mem_cons.mp hb).elim (λq=>Int.le_trans (q▸Int.le_of_lt c) ((ih x).2 x aF)) ((ih x).2 b)⟩
 ·rw [if_neg c]
  exact ⟨(List.mem_cons.mp (ih a).1).elim (λq=>List.mem_cons.mpr (.inl q)) λq=>bB _ (bB _ q),λb hb=>(List.mem_cons.mp hb).elim (λq=>q▸(ih a).2 a aF) λhb=>(List.mem_cons.mp hb).elim (λq=>Int.le_trans (q▸Int.not_lt.mp c) ((ih a).2 a aF)) λhb=>(ih a).2 b (bB _ hb)⟩) r
section
variable{Ω:Cx}{Φ Φ' Kp:Facts}{σ σ':Sg}{hp hp':Hp}{h:Heap}{s s':Shared}{A:Around}{v u:Value}{x y z:aa}{α β:Type}{t:Wl Ω Kp hp s}{w:Tr β}{R:Rl β α}{b c:Bool}{ob ob':ak}{a:Addr}
theorem DZ{ps:List (Int×Tok)}{x:Int}{r:List Int}(hm:ps.map (·.1)=x::r)(j:Nat):numAt ps.toArray j=((x::r)[j]?).getD 0:=by
 rw [<-hm,List.getElem?_map];unfold numAt;rw [List.getElem?_toArray]
theorem PA(hh:A.handled=none)(V:t.V v x)(e:tw hp .max x=some z):ae t (aj z) (Wp Ω A (call (.builtin "max") [v])) (VR Ω):=
 oC e (λxs ex e=>fv e (λl e1 e=>c9 t.S V (P:=λv=>ae t (aj z) (Wp Ω A (call (.builtin "max") [v])) (VR Ω)) (ex▸rfl:bH hp x=some (.list xs)) λa vs h1 h2=>ae.ext λq=>by
  cases l with
  | nil=>cases e
  | cons x r=>
   obtain ⟨_,ps,hv,hm⟩:=wA h2 e1
   have hvs:vs=intItems ps.toArray:=Array.toList_inj.mp (hv.trans (by unfold intItems;rw [List.map_toArray]))
   subst hvs
   have hlen:ps.length=r.length + 1:=by rw [<-List.length_map,hm];rfl
   refine max_intList hh h1 (by rw [List.size_toArray,hlen];exact Nat.succ_pos _) λv h' tk hv' k=>?_
   have hb:=argBest_gt (numAt ps.toArray) (ps.toArray.size - 1)
   generalize argBest (λi j=>decide (numAt ps.toArray i > numAt ps.toArray j)) (ps.toArray.size - 1)=k0 at hb hv'
   have hk0:k0 < (x::r).length:=Nat.lt_succ_of_le (by have:=hb.1;rwa [List.size_toArray,hlen]at this)
   obtain ⟨t,rfl⟩:=intItems_at hv'
   have hmx:=Bf r x
   have hval:numAt ps.toArray k0=oJ x r:=by
    refine Int.le_antisymm ?_ ?_
    ·rw [DZ hm,List.getElem?_eq_getElem hk0];exact hmx.2 _ (List.getElem_mem hk0)
    ·obtain ⟨j,hj,ej⟩:=List.mem_iff_getElem.mp hmx.1
     have:=hb.2 j (by rw [List.size_toArray,hlen];exact Nat.le_of_lt_succ hj)
     rw [DZ hm j,List.getElem?_eq_getElem hj]at this
     exact ej▸this
   rw [hval]
   exact q _ _ tk k (ay e▸ .int _ _)) aA) aA
theorem LH(hh:A.handled=none)(V:t.V v x)(V':t.V u y):ae t (hY (arith (λx y=>some (if x < y then y else x)) x y) aj) (Wp Ω A (call (.builtin "max") [v,u])) (VR Ω):=
 ae.op λz e=>fQ e (λi ex e=>fQ e (λj ey e=>V.cQ (P:=λv=>ae t (aj z) (Wp Ω A (call (.builtin "max") [v,u])) (VR Ω)) ex λtk=>V'.cQ (P:=λu=>ae t (aj z) (Wp Ω A (call (.builtin "max") [.int i tk,u])) (VR Ω)) ey λtk'=>
  ae.ext λq=>max_two_ints hh λh' k m=>by
   have e:aa.int (if i < j then j else i)=z:=ay e
   by_cases c:i < j
   ·rw [if_pos c]at e;rw [if_pos (show j > i from c)];exact q _ _ k m (e▸ .int _ _)
   ·rw [if_neg c]at e;rw [if_neg (show ¬j > i from c)];exact q _ _ k m (e▸ .int _ _)) aA) aA
theorem digit:∀n:Nat,n < 10->(toString (n:Int):PySem.Str)=toS [48 + n]:=by decide
theorem Oy(V:t.V v x)(e:tw hp .str x=some z):ae t (aj z) (Wp Ω A (call (.type "str") [v])) (VR Ω):=
 fQ e (λi ex e=>iJ e λc e=>V.cQ (P:=λv=>ae t (aj z) (Wp Ω A (call (.type "str") [v])) (VR Ω)) ex λtk=>ae.val λq=>by
  have c:=of_decide_eq_true c
  obtain ⟨n,rfl⟩:=Int.eq_ofNat_of_zero_le c.1
  have hn:n < 10:=Int.ofNat_lt.mp c.2
  refine PySem.P.str_of_int (bJ (Nat.log2_le_self _) (eG hn (by decide))) ?_
  rw [digit n hn]
  exact q _ _ (ay e▸ .str [48 + n] _ λc hc=>by rw [List.mem_singleton.mp hc];exact eG (Nat.add_lt_add_left hn 48) (by decide))) aA
theorem ae.Pt{o:Obj}{z:aa}(V:VR Ω (t.Φ.more (s.heap.push o) [s.heap.objs.size]) t.σ (.ref s.heap.objs.size) z){w:Tr Value}(h:∀{E:Value->Shared->Prop} {Q:Value->Shared->Prop},(∀k,Q (.ref s.heap.objs.size) {s with heap:=s.heap.push o,toks:=k})->w E Q s):ae t (aj z) w (VR Ω):=
 ae.fin λE Q q=>h λk=>q _ _ ⟨_,t.σ,t.B,t.g.trans Facts.cX,(t.pushS _).zR t.new⟩ ⟨⟨_,k,rfl⟩,Facts.cX,.refl⟩ V
theorem Dw{n:Int}(V:t.V v (.int n))(hn: -1048576 < n/\n < 1048576):ae t (aj (.rT 0 n.toNat)) (Wp Ω A (call (.type "range") [v])) (VR Ω):=
 V.cQ rfl (P:=λv=>ae t (aj (.rT 0 n.toNat)) (Wp Ω A (call (.type "range") [v])) (VR Ω)) λtk=>ae.Pt (.rT (.inr ⟨jN _,m8⟩) (by rw [Int.sub_zero]) ⟨by decide,by decide,hn⟩) λq=>call_range_1 (q _)
theorem Dv{m n:Int}(V:t.V v (.int m))(V':t.V u (.int n))(hn: -1048576 < n/\n < 1048576/\ -1048576 < m/\m < 1048576):ae t (aj (.rT m (n - m).toNat)) (Wp Ω A (call (.type "range") [v,u])) (VR Ω):=
 V.cQ rfl (P:=λv=>ae t (aj (.rT m (n - m).toNat)) (Wp Ω A (call (.type "range") [v,u])) (VR Ω)) λtk=>V'.cQ rfl (P:=λu=>ae t (aj (.rT m (n - m).toNat)) (Wp Ω A (call (.type "range") [.int m tk,u])) (VR Ω)) λtk'=>
 ae.Pt (.rT (.inr ⟨jN _,m8⟩) rfl ⟨hn.2.2.1,hn.2.2.2,hn.1,hn.2.1⟩) λq=>call_range_2 (q _)
end
theorem lP(n:Nat):∀a:Int,(gV a n).length=n:=Nat.rec (motive:=λn=>∀a:Int,(gV a n).length=n) (λ_=>rfl) (λn ih a=>congrArg Nat.succ (ih (a + 1))) n
theorem xZ(n:Nat):∀{a:Int} {i:Nat},i < n->(gV a n)[i]?=some (.int (a + i)):=Nat.rec (motive:=λn=>∀{a:Int} {i:Nat},i < n->(gV a n)[i]?=some (.int (a + i))) (λh=>absurd h (Nat.not_lt_zero _)) (λn ih a i h=>match i,h with
 | 0,_=>congrArg (λk=>some (aa.int k)) (Int.add_zero a).symm
 | i + 1,h=>(ih (a:=a + 1) (Nat.lt_of_succ_lt_succ h)).trans (congrArg (λk=>some (aa.int k)) (by rw [Int.add_assoc,Int.natCast_succ,Int.add_comm 1]))) n
section
variable{Ω:Cx}{Φ Φ' Kp:Facts}{σ σ':Sg}{hp hp':Hp}{h h':Heap}{s s':Shared}{A:Around}{v u:Value}{x y z:aa}{α β:Type}{t:Wl Ω Kp hp s}{w:Tr β}{R:Rl β α}{b c:Bool}{ob ob':ak}{a:Addr}
structure It(Ω:Cx)(A:Around)(Φ:Facts)(σ:Sg)(I:Addr)(xs:List aa)(At:Nat->Heap->Prop):Prop where
 there:∀{i h},At i h->∃o,h.get? I=some o
 frame:∀{i h h'},At i h->Le Φ (EF h)->Le Φ (EF h')->(∀o,h.get? I=some o->h'.get? I=some o)->At i h'
 item:∀{i} {s:Shared} {Q:Option Value->Shared->Prop} {E:Value->Shared->Prop} {x},xs[i]?=some x->At i s.heap->(∀v h' tk,VR Ω Φ σ v x->At (i + 1) h'->(∀b o,b≠I->s.heap.get? b=some o->h'.get? b=some o)->Q (some v) {s with heap:=h',toks:=tk})->
  wpAny (model Ω.prog Ω.w) A (pyNext (.ref I)) Q E s
 done:∀{s:Shared} {Q:Option Value->Shared->Prop} {E:Value->Shared->Prop},At xs.length s.heap->(∀h' tk,(∀b o,b≠I->s.heap.get? b=some o->h'.get? b=some o)->Q none {s with heap:=h',toks:=tk})->wpAny (model Ω.prog Ω.w) A (pyNext (.ref I)) Q E s
 self:∀{i} {s:Shared} {Q:Value->Shared->Prop} {E:Value->Shared->Prop},At i s.heap->Q (.ref I) s->wpAny (model Ω.prog Ω.w) A (pyIter (.ref I)) Q E s
 go:∀{i v} {s:Shared} {Q:Unit->Shared->Prop} {E:Value->Shared->Prop} {es c p},At i s.heap->Q () s->wpAny (model Ω.prog Ω.w) A (letOwnedTupleGo (.Tuple es c p) (.ref I) v) Q E s
noncomputable abbrev Fu(n:String):Bool:=["enumerate","zip","dict_itemiterator","dict_reverseitemiterator","odict_iterator","itertools.zip_longest","itertools.pairwise"].contains n
theorem Qo{I:Addr}{n:String}{vs:Array Value}{es c p}{o:Obj}{E}{Q:Unit->Shared->Prop}(e:s.heap.get? I=some o)(e1:o.cls= .type n)(e2:o.data= .fields vs)
  (hn:Fu n=false) (q:Q () s):wpAny (model Ω.prog Ω.w) A (letOwnedTupleGo (.Tuple es c p) (.ref I) v) Q E s:=by
 cases v with
 | ref a=>
  refine wpAny_bind (wpAny_load e ?_)
  rw [e1,e2]
  show wpAny _ _ (if (Fu n&&vs[0]?==some (rawInt a))=true then _ else _) _ _ _
  rw [hn]
  exact wpAny_pure q
 | _=>exact wpAny_pure q
theorem It.of{I:Addr}{n:String}{xs:List aa}{P:Nat->Value->Prop}{Stt:Nat->Heap->Prop}{fp:List Addr}(W:Walks Ω.prog Ω.w A I fp [I] xs.length P Stt)
  (hfp:∀b∈fp,b≠I->Φ.has b) (ht:∀{i h},Stt i h->∃o vs,h.get? I=some o/\o.cls= .type n/\o.data= .fields vs) (hn:Fu n=false)
  (hP:∀{i v x},xs[i]?=some x->P i v->VR Ω Φ σ v x):It Ω A Φ σ I xs Stt where
 there:=λe=>(ht e).imp λo q=>q.elim λ_ q=>q.1
 frame:=λ{i h h'} e k k' kI=>W.frame i h h' e λb hb o ho=>by
  by_cases q:b=I
  ·exact q▸kI o (q▸ho)
  ·obtain ⟨o',e'⟩:=hfp b hb q
   exact ay ((k b o' e').symm.trans ho)▸k' b o' e'
 item:=λ{i s Q E x} e a q=>W.item i s Q E (List.getElem?_eq_some_iff.mp e).1 a λv h' tk p st k=>q v h' tk (hP e p) st λb o hb ho=>k b o (λq=>hb (List.mem_singleton.mp q)) ho
 done:=λ{s Q E} a q=>W.done s Q E a λh' tk k=>q h' tk λb o hb ho=>k b o (λq=>hb (List.mem_singleton.mp q)) ho
 self:=λa q=>W.self _ _ _ _ a q
 go:=λa q=>(ht a).elim λo k=>k.elim λvs k=>Qo k.1 k.2.1 k.2.2 hn q
noncomputable def N3(Ω:Cx)(A:Around)(Φ:Facts)(σ:Sg)(s:Shared)(xs:List aa)(Q:Value->Shared->Prop):Prop:=
 ∀I h' At,s.heap.get? I=none->(∀b o,s.heap.get? b=some o->h'.get? b=some o)->At 0 h'->It Ω A Φ σ I xs At->Q (.ref I) {s with heap:=h'}
theorem ER{a I:Addr}(h:Φ.has a):∀b∈[I,a],b≠I->Φ.has b:=λb hb hn=>(List.mem_cons.mp hb).elim (λq=>absurd q hn) λq=>(List.mem_singleton.mp q)▸h
theorem yx{vs:Array Value}{xs:List aa}(V:fT Ω Φ σ vs.toList xs){i:Nat}{v:Value}(e:xs[i]?=some x)(p:vs[i]?=some v):VR Ω Φ σ v x:=(V.at e).elim λu q=>ay (q.1.symm.trans p)▸q.2
theorem je{k:Int}(h: -2097152 < k/\k < 2097152):Builtin.Range.rangeFitsLong k=true:=by unfold Builtin.Range.rangeFitsLong;simp;omega
theorem vM{i j:Int}{n:Nat}(h:n=(j - i).toNat):Builtin.Range.rangeSize i j 1=(n:Int):=by
 rw [rangeSize_one]
 split <;> omega
theorem AZ{i j:Int}{n:Nat}(h:n=(j - i).toNat)(h3: -1048576 < i/\i < 1048576/\ -1048576 < j/\j < 1048576):Builtin.Range.small i j 1=true:=by
 unfold Builtin.Range.small
 rw [vM h,je (k:=i) (by omega),je (k:=j) (by omega),je (k:=1) (by omega),je (k:=n) (by omega),if_pos (by decide),je (k:=j + (1 - 1)) (by omega)]
 exact Bool.or_true _
theorem zf{a:Addr}{o:Obj}(t:Wl Ω Kp hp s)(h:t.Φ a o):a≠s.heap.objs.size:=λq=>c8 (q▸dc s.heap) (t.S.fz _ _ h)
theorem Ho{a:Addr}{vs:Array Value}{o:Obj}{n:Nat}{xs:List aa}(hh:A.handled=none)(t:Wl Ω Kp hp s)(h1:t.Φ a o)(h2:o.cls= .type "list")(h3:o.data= .seq vs n)(h4:fT Ω t.Φ t.σ vs.toList xs){E}{Q:Value->Shared->Prop}(q:N3 Ω A t.Φ t.σ s xs Q):wpAny (model Ω.prog Ω.w) A (pyIter (.ref a)) Q E s:=
 have hl:s.heap.IsList a vs:=⟨_,t.S.fz _ _ h1,h2,_,h3⟩
 have W:=Walks.list (prog:=Ω.prog) (w:=Ω.w) hh s.heap.objs.size a (zf t h1) vs
 wpAny_pyIter_list hl (q _ _ _ (dc _) (λb o e=>Heap.get?_push_of_some _ e) ⟨⟨_,Heap.get?_push_size _ rfl,rfl,rfl⟩,hl.push _⟩ (It.of (n:="list_iterator") (bX h4.length▸W) (ER ⟨_,h1⟩) (λh=>h.1.imp λ_ h=>⟨_,h⟩) (by decide +kernel) λe' p=>yx h4 e' p))
theorem Kj{a:Addr}{vs:Array Value}{o:Obj}{n:Nat}{xs:List aa}(hh:A.handled=none)(t:Wl Ω Kp hp s)(h1:t.Φ a o)(h2:o.cls= .type "tuple")(h3:o.data= .seq vs n)(h4:fT Ω t.Φ t.σ vs.toList xs){E}{Q:Value->Shared->Prop}(q:N3 Ω A t.Φ t.σ s xs Q):wpAny (model Ω.prog Ω.w) A (pyIter (.ref a)) Q E s:=
 have hl:s.heap.IsTuple a vs:=⟨_,t.S.fz _ _ h1,h2,_,h3⟩
 have W:=Walks.tuple (prog:=Ω.prog) (w:=Ω.w) hh s.heap.objs.size a (zf t h1) vs
 wpAny_pyIter_tuple hl (q _ _ _ (dc _) (λb o e=>Heap.get?_push_of_some _ e) ⟨⟨_,Heap.get?_push_size _ rfl,rfl,rfl⟩,hl.push _⟩ (It.of (n:="tuple_iterator") (bX h4.length▸W) (ER ⟨_,h1⟩) (λh=>h.1.imp λ_ h=>⟨_,h⟩) (by decide +kernel) λe' p=>yx h4 e' p))
theorem K7{a:Addr}{i j:Int}{n:Nat}{tk tk' tk'':Tok}(hh:A.handled=none)(t:Wl Ω Kp hp s)(h1:t.Φ a {cls:=.type "range",data:=.fields #[.int i tk,.int j tk',.int 1 tk'']})(h2:n=(j - i).toNat)(h3: -1048576 < i/\i < 1048576/\ -1048576 < j/\j < 1048576)
  {E} {Q:Value->Shared->Prop} (q:N3 Ω A t.Φ t.σ s (gV i n) Q):wpAny (model Ω.prog Ω.w) A (pyIter (.ref a)) Q E s:=by
 have W:Walks Ω.prog Ω.w A s.heap.objs.size [s.heap.objs.size] [s.heap.objs.size] (gV i n).length (λk v=>∃t,v= .int (i + k * 1) t) (λk h=>IsRangeIter h s.heap.objs.size (i + (k:Nat) * 1) ((n:Int) - (k:Nat)) 1):=by
  rw [lP];exact Walks.range hh _ i 1 n
 refine wpAny_pyIter_range (t.S.fz _ _ h1) (AZ h2 h3) (q _ _ _ (dc _) (λb o e=>Heap.get?_push_of_some _ e) ?_ (It.of (n:="range_iterator") W (λb hb hn=>absurd (List.mem_singleton.mp hb) hn) (λh=>⟨_,_,h,rfl,rfl⟩) (by decide +kernel) λ{k v x} e p=>?_))
 ·rw [vM h2]
  show (s.heap.push _).get? s.heap.objs.size=_
  rw [Heap.get?_push_size _ rfl,Int.mul_one,Int.natCast_zero,Int.add_zero,Int.sub_zero]
 ·obtain ⟨tk,rfl⟩:=p
  rw [xZ n (lP n i▸(List.getElem?_eq_some_iff.mp e).1)]at e
  rw [Int.mul_one,<-ay e]
  exact .int _ _
theorem yw(hh:A.handled=none)(t:Wl Ω Kp hp s){xs:List aa}(V:t.V v x)(e:itemsOf x=some xs){E}{Q:Value->Shared->Prop}(q:N3 Ω A t.Φ t.σ s xs Q):wpAny (model Ω.prog Ω.w) A (pyIter v) Q E s:=
 VR.casesOn (motive_1:=λv x _=>itemsOf x=some xs->wpAny (model Ω.prog Ω.w) A (pyIter v) Q E s) V aA (λ_=>aA) (λ_ _=>aA) (λ_ _ _=>aA) (λh1 h2 h3 h4 e=>Kj hh t h1 h2 h3 h4 (ay e▸q))
  (λh1 h2 h3 h4 e=>Ho hh t h1 h2 h3 h4 (ay e▸q)) (λ_=>aA) (λ_=>aA) (λ_ _=>aA) (λh1 h2 h3 e=>K7 hh t h1 h2 h3 (ay e▸q)) (λ_=>aA) (λ_=>aA) e
theorem O0(hh:A.handled=none)(t:Wl Ω Kp hp s){xs:List aa}(V:t.V v (.list xs)){E}{Q:Value->Shared->Prop}(q:N3 Ω A t.Φ t.σ s xs.reverse Q):
  wpAny (model Ω.prog Ω.w) A (call (.type "reversed") [v]) (λit s'=>wpAny (model Ω.prog Ω.w) A (pyIter it) Q E s') E s:=by
 cases V with
 | list h1 h2 h3 h4=>
  rename_i a o vs n
  have hl:s.heap.IsList a vs:=⟨_,t.S.fz _ _ h1,h2,_,h3⟩
  have hsz:vs.size=xs.reverse.length:=by rw [bX h4.length,List.length_reverse]
  have hrev:(s.heap.push (revObj a ((vs.size:Int) - 1))).IsRevIter s.heap.objs.size a ((vs.size:Int) - 1 - ((0:Nat):Int)):=⟨_,Heap.get?_push_size _ rfl,rfl,by rw [Int.natCast_zero,Int.sub_zero];rfl⟩
  have W:=Walks.listRev (prog:=Ω.prog) (w:=Ω.w) hh s.heap.objs.size a (zf t h1) vs
  refine call_reversed_list hl (wpAny_pyIter_revIter (i:=(vs.size:Int) - 1 - ((0:Nat):Int)) hrev (q _ _ _ (dc _) (λb o e=>Heap.get?_push_of_some _ e) ⟨bP _,by rw [<-hsz];exact hrev,hl.push _⟩
   (It.of (n:="list_reverseiterator") (hsz▸W) (ER ⟨_,h1⟩) (λh=>h.2.1.imp λ_ h=>⟨_,h⟩) (by decide +kernel) λ{i v x} e p=>?_)))
  have hi:i < xs.length:=by have:=(List.getElem?_eq_some_iff.mp e).1;rwa [List.length_reverse]at this
  rw [List.getElem?_reverse hi,<-bX h4.length]at e
  have p:vs[xs.reverse.length - 1 - i]?=some v:=p
  rw [<-hsz]at p
  exact yx h4 e p
end
section
variable{α β γ:Type}{P:Prop}{r:β}
theorem ua{x:aa}{f:Nat->List (Sx×aa)->Option β}{d:Option β}(e:x.Li f d=some r)(p:∀c k,x= .inst c k->f c k=some r->P)(q:d=some r->P):P:=by
 cases x <;> first | exact q e | exact p _ _ rfl e
theorem Lj{x:aa}{f:Nat->Option β}{d:Option β}(e:x.FY f d=some r)(p:∀i,x= .af i->f i=some r->P)(q:d=some r->P):P:=by
 cases x <;> first | exact q e | exact p _ rfl e
theorem Ls{o:Option ak}{f:Nat->Nat->Option β}{d:Option β}(e:FZ o f d=some r)(p:∀c i,o=some (.inst c i)->f c i=some r->P)(q:d=some r->P):P:=by
 rcases o with _ | o
 ·exact q e
 ·cases o <;> first | exact q e | exact p _ _ rfl e
theorem Lr{o:Option ak}{f:List (Sx×aa)->Option β}{d:Option β}(e:DK o f d=some r)(p:∀i,o=some (.ns i)->f i=some r->P)(q:d=some r->P):P:=by
 rcases o with _ | o
 ·exact q e
 ·cases o <;> first | exact q e | exact p _ rfl e
end
section
variable{Ω:Cx}{Φ Φ' Kp:Facts}{σ σ':Sg}{hp hp':Hp}{h h':Heap}{s s':Shared}{A:Around}{v u:Value}{x y z:aa}{α β:Type}{t:Wl Ω Kp hp s}{w:Tr β}{R:Rl β α}{b c:Bool}{ob ob':ak}{a:Addr}{m:HM α}
theorem ae.FY{f:Nat->HM α}{d:HM α}(h:∀i,x= .af i->ae t (f i) w R)(h2:ae t d w R):ae t (x.FY f d) w R:=by
 cases x <;> first | exact h2 | exact h _ rfl
theorem ae.FZ{o:Option ak}{f:Nat->Nat->HM α}{d:HM α}(h:∀c i,o=some (.inst c i)->ae t (f c i) w R)(h2:ae t d w R):ae t (FZ o f d) w R:=by
 rcases o with _ | o
 ·exact h2
 ·cases o <;> first | exact h2 | exact h _ _ rfl
theorem ae.DK{o:Option ak}{f:List (Sx×aa)->HM α}{d:HM α}(h:∀i,o=some (.ns i)->ae t (f i) w R)(h2:ae t d w R):ae t (DK o f d) w R:=by
 rcases o with _ | o
 ·exact h2
 ·cases o <;> first | exact h2 | exact h _ rfl
noncomputable def ak.Oj:ak->Nat×Nat
 | .inst c i=>(c,i)
 | _=>(0,0)
noncomputable def aa.Oj:aa->Nat×List (Sx×aa)
 | .inst c i=>(c,i)
 | _=>(0,[])
noncomputable def NB(R:Value->aa->Prop)(mm:PySem.Str->Option Value)(um:Sx->Value)(fs:List (Sx×aa)):Prop:=(∀n v,bZ fs n=some v->mm (toS n)=some (um n))/\(∀n v,bZ fs n=some v->R (um n) v)/\(∀n,bZ fs n=none->mm (toS n)=none)
theorem OB.lr{R:Value->aa->Prop}{At:Facts}{c did:Nat}(x:OB Ω R At σ a (.inst c did)):∃dx,At a (instObj (Ω.cA c) dx)/\σ (.af did)=some dx:=
 OB.casesOn (motive:=λa ob _=>ob= .inst c did->∃dx,At a (instObj (Ω.cA c) dx)/\σ (.af did)=some dx) x (λ_ _ e=>nomatch e) (λ_ _ e=>nomatch e) (λ_ _ e=>nomatch e)
  (λ{_ c' d' _} h1 h2 e=>⟨_,(show c'=c from congrArg (λo=>(ak.Oj o).1) e)▸h1,(show d'=did from congrArg (λo=>(ak.Oj o).2) e)▸h2⟩) (λ_ _ _ _ e=>nomatch e) rfl
theorem OB.vV{R:Value->aa->Prop}{At:Facts}{fs:List (Sx×aa)}(x:OB Ω R At σ a (.ns fs)):∃mm um,NC At a mm/\NB R mm um fs:=
 OB.casesOn (motive:=λa ob _=>ob= .ns fs->∃mm um,NC At a mm/\NB R mm um fs) x (λ_ _ e=>nomatch e) (λ_ _ e=>nomatch e) (λ_ _ e=>nomatch e) (λ_ _ e=>nomatch e)
  (λ{_ mm' fs' um'} h1 h2 h3 h4 e=>⟨mm',um',h1,(show fs'=fs from congrArg ak.Oh e)▸(⟨h2,h3,h4⟩:NB R mm' um' fs')⟩) rfl
@[elab_as_elim]
theorem VR.lr{c:Nat}{fs:List (Sx×aa)}(V:VR Ω Φ σ v x)(e:x= .inst c fs){P:Value->Prop}(p:∀a dx,Φ a (instObj (Ω.cA c) dx)->OB Ω (VR Ω Φ σ) Φ σ dx (.ns fs)->P (.ref a)):P v:=
 VR.casesOn (motive_1:=λv x _=>x= .inst c fs->P v) V (λe=>nomatch e) (λ_ e=>nomatch e) (λ_ _ e=>nomatch e) (λ_ _ _ e=>nomatch e) (λ_ _ _ _ e=>nomatch e) (λ_ _ _ _ e=>nomatch e) (λ_ e=>nomatch e) (λ_ e=>nomatch e)
  (λ{_ c' _ fs'} h1 h2 e=>p _ _ ((show c'=c from congrArg (λo=>(aa.Oj o).1) e)▸h1) ((show fs'=fs from congrArg (λo=>(aa.Oj o).2) e)▸h2)) (λ_ _ _ e=>nomatch e) (λ_ e=>nomatch e) (λ_ e=>nomatch e) e
structure FV(Ω:Cx)(C:Addr)(fields:List Sx)(fI:Addr):Prop where
 ga:findIn Ω.K (.ref C) "__getattribute__"=some (some (.builtin "object.__getattribute__"))
 gn:findIn Ω.K (.ref C) "__getattr__"=some none
 cd:∃cd,clsIn Ω.K C=some cd/\cd.hasDict=true
 fld:∀n∈fields,findIn Ω.K (.ref C) (toS n)=some none/\copiedNames.contains (toS n)=false
 sa:findIn Ω.K (.ref C) "__setattr__"=some (some (.builtin "object.__setattr__"))
 plain:plainOver Ω.K C=true
 makes:makesIn Ω.K C=true
 init:findIn Ω.K (.ref C) "__init__"=some (some (.ref fI))
 fn:typeIn Ω.K (.ref fI)=some (.type "function")
theorem sR{o:Obj}{es:Array DictEntry}{n:Nat}{m:PySem.Str->Option Value}(hd:o.data= .dict es n)(hk:StrKeys es)(hf:∀name,nsFind es name=m name)(name:PySem.Str):lookIn name o=some (m name):=by
 unfold lookIn
 rw [hd]
 dsimp only
 rw [Array.find?_toList]
 have:=hf name
 unfold nsFind findBy at this
 cases q:es.find? (λe=>e.key.isStr name)with
 | some e=>rw [q]at this;rw [<-this];rfl
 | none=>
  rw [q]at this
  rw [<-this,show es.toList.any (·.refKey)=false from List.any_eq_false.mpr λe he=>(hk e (Array.mem_toList_iff.mp he)).elim λk h=>h.elim λt ek=>by unfold DictEntry.refKey;rw [ek];exact Bool.false_ne_true]
  rfl
theorem BF(R:VR Ω Φ σ v x):handedIn v=true:=VR.casesOn (motive_1:=λv _ _=>handedIn v=true) R rfl (λ_=>rfl) (λ_ _=>rfl) (λ_ _ _=>rfl) (λ_ _ _ _=>rfl) (λ_ _ _ _=>rfl) (λ_=>rfl) (λ_=>rfl) (λ_ _=>rfl) (λ_ _ _=>rfl) (λ_=>rfl) (λ_=>rfl)
theorem findObj_own{C:Addr}{fs:List Sx}{fI:Addr}(X:FV Ω C fs fI){n:Sx}(hn:n∈fs){od:Obj}{v:Value}(e:lookIn (toS n) od=some (some v)):findObj Ω.K C (some od) (toS n)=some (.value v):=by
 obtain ⟨cd,hc,hd⟩:=X.cd
 unfold findObj
 rw [hc,Option.bind_some,(X.fld n hn).1,Option.bind_some]
 simp only [Option.bind_some,PySem.W.ownOf,hd,if_true,e]
theorem uF{a dx C:Addr}{od:Obj}(h1:h.get? a=some (instObj C dx))(h2:h.get? dx=some od):InstAt h a (instObj C dx) C (some od):=⟨h1,rfl,rfl,h2⟩
noncomputable def eW(Ω:Cx):Prop:=∀c,(Ω.P.fields c≠[]->∃f,Ω.P.init c=some f/\FV Ω (Ω.cA c) (Ω.P.fields c) (Ω.fA f))/\(∀f,Ω.P.init c=some f->FV Ω (Ω.cA c) (Ω.P.fields c) (Ω.fA f))/\
 ∀n f,Ω.P.mB c n=some f->findIn Ω.K (.ref (Ω.cA c)) (toS n)=some (some (.ref (Ω.fA f)))/\typeIn Ω.K (.ref (Ω.fA f))=some (.type "function")/\Ω.P.fields c≠[]/\keepIn Ω.K (.ref (Ω.fA f))=true
theorem eW.mem(X:eW Ω){c:Nat}{n:Sx}(h:(Ω.P.fields c).contains n=true):n∈Ω.P.fields c/\∃f,FV Ω (Ω.cA c) (Ω.P.fields c) (Ω.fA f):=
 have m:=List.contains_iff_mem.mp h
 ⟨m,((X c).1 λq=>nomatch (q▸m:n∈([]:List Sx))).imp λ_ q=>q.2⟩
theorem Wl.lG(t:Wl Ω Kp hp s):Ω.K.In s.heap:=λa o e=>t.S.fz _ _ (t.g _ _ (t.B.lG a o e))
theorem Aj{c:Nat}{n:Sx}{dx:Addr}{mm:PySem.Str->Option Value}{um:Sx->Value}{fs:List (Sx×aa)}(X:eW Ω)(t:Wl Ω Kp hp s)(hc:(Ω.P.fields c).contains n=true)(h1:s.heap.get? a=some (instObj (Ω.cA c) dx))(h2:NC (EF s.heap) dx mm)(h3:NB (VR Ω t.Φ t.σ) mm um fs)(e:bZ fs n=some z):
  ae t (aj z) (Wp Ω A (getAttr (.ref a) (toS n) true)) (VR Ω):=by
 obtain ⟨m,f,Y⟩:=X.mem hc
 obtain ⟨od,es,ep,k1,k2,k3,k4,k5⟩:=h2
 exact ae.val λq=>get_value t.lG (uF h1 k1) Y.ga (findObj_own Y m (by rw [sR k2 k3 k5,h3.1 n z e])) (BF (h3.2.1 n z e)) (q _ _ (h3.2.1 n z e))
theorem Ng(X:eW Ω)(V:t.V v x){n:Sx}(e:FA Ω.P hp x n=some z):ae t (aj z) (Wp Ω A (getAttr v (toS n) true)) (VR Ω):=by
 refine ua e (λc fs ex e=>iJ e λhc e=>V.lr (P:=λv=>ae t (aj z) (Wp Ω A (getAttr v (toS n) true)) (VR Ω)) ex λa dx h1 h2=>h2.vV.elim λmm k=>k.elim λum k=>Aj X t hc (t.S.fz _ _ h1) (k.1.mono (t.S.fz _)) k.2 e) λe=>
  Lj e (λid ex e=>Ls e (λc did e1 e=>iJ e λhc e=>Lr e (λfs e2 e=>fV t.S V (P:=λv=>ae t (aj z) (Wp Ω A (getAttr v (toS n) true)) (VR Ω)) (show hp.get x=_ by rw [ex];exact e1) λa ha o=>?_) aA) aA) aA
 obtain ⟨dx,o1,o2⟩:=o.lr
 obtain ⟨dx',q,O'⟩:=t.S.obj (.af did) _ e2
 obtain ⟨mm,um,k1,k2⟩:=(ay (q.symm.trans o2)▸O':OR Ω t.Φ t.σ s.heap dx (.ns fs)).vV
 exact Aj X t hc o1 k1 k2 e
theorem AK{fs:List (Sx×aa)}{mm:PySem.Str->Option Value}(h:∀n,bZ fs n=none->mm (toS n)=none):Within mm (fs.map λp=>toS p.1):=λy hy=>
 have key:∀{n:Sx},toS n∉fs.map (λp:Sx×aa=>toS p.1)->bZ fs n=none:=λ{n}=>
  List.rec (motive:=λfs:List (Sx×aa)=>toS n∉fs.map (λp:Sx×aa=>toS p.1)->bZ fs n=none) (λ_=>rfl) (λp r ih hn=>(gQ (p:=p) (r:=r)).trans ((if_neg λq=>hn (List.mem_cons.mpr (.inl (congrArg toS q.symm)))).trans (ih λq=>hn (bB _ q)))) fs
 Classical.byContradiction λc=>hy (h y.cps.toList (key c))
theorem oA(n m:Sx)(z:aa)(fs:List (Sx×aa)):bZ (sset fs n z) m=if m=n then some z else bZ fs m:=List.rec (motive:=λfs=>bZ (sset fs n z) m=if m=n then some z else bZ fs m)
 (show (if n=m then some z else none)=_ by
  by_cases e:n=m
  ·rw [if_pos e,if_pos e.symm]
  ·rw [if_neg e,if_neg λq=>e q.symm];rfl) (λp r ih=>by
  show i7 (i5 (p::r) n z) m=if m=n then some z else i7 (p::r) m
  rw [oO,gQ]
  by_cases e:p.1=n
  ·rw [if_pos e,gQ]
   by_cases e2:p.1=m
   ·rw [if_pos e2,if_pos (e2.symm.trans e)]
   ·rw [if_neg e2,if_neg (λq=>e2 (e.trans q.symm)),if_neg e2]
  ·rw [if_neg e,gQ]
   by_cases e2:p.1=m
   ·rw [if_pos e2,if_neg (λq=>e (e2.trans q)),if_pos e2]
   ·rw [if_neg e2,if_neg e2,<-ih]) fs
theorem NB.set{R:Value->aa->Prop}{mm:PySem.Str->Option Value}{um:Sx->Value}{fs:List (Sx×aa)}(r:NB R mm um fs)(n:Sx)(V:R v x):NB R (λy=>if y=toS n then some v else mm y) (λm=>if m=n then v else um m) (sset fs n x):=by
 refine ⟨λm z e=>?_,λm z e=>?_,λm e=>?_⟩
 ·rw [oA]at e
  show (if toS m=toS n then some v else mm (toS m))=some (if m=n then v else um m)
  by_cases c:m=n
  ·rw [if_pos c,if_pos (congrArg toS c)]
  ·rw [if_neg c]at e ⊢;rw [if_neg λq=>c (fm q)];exact r.1 m z e
 ·rw [oA]at e
  show R (if m=n then v else um m) z
  by_cases c:m=n
  ·rw [if_pos c]at e ⊢;exact ay e▸V
  ·rw [if_neg c]at e ⊢;exact r.2.1 m z e
 ·rw [oA]at e
  show (if toS m=toS n then some v else mm (toS m))=none
  by_cases c:m=n
  ·rw [if_pos c]at e;cases e
  ·rw [if_neg c]at e;rw [if_neg λq=>c (fm q)];exact r.2.2 m e
theorem AY(X:eW Ω)(V:t.V v x)(V':t.V u y){n:Sx}:ae t (mY Ω.P x n y) (Wp Ω A (setAttr v (toS n) u)) (λ_ _ _ _=>True):=
 ae.ge <| ae.FZ (λc did e1=>ae.gd λhc=>ae.ge <| ae.DK (λkvs e2=>ae.sm λhl=>fV t.S V e1 (P:=λv=>ae t (vo λh=>h.put (.af did) (.ns (sset kvs n y))) (Wp Ω A (setAttr v (toS n) u)) (λ_ _ _ _=>True)) λa ha o=>by
  obtain ⟨m,f,Y⟩:=X.mem hc
  obtain ⟨dx,o1,o2⟩:=o.lr
  obtain ⟨dx',q,O'⟩:=t.S.obj (.af did) _ e2
  obtain ⟨mm,um,n1,n2⟩:=(ay (q.symm.trans o2)▸O':OR Ω t.Φ t.σ s.heap dx (.ns kvs)).vV
  obtain ⟨od,es,ep,k1, -⟩:=id n1
  obtain ⟨cd,hcd,hhd⟩:=Y.cd
  refine ae.put e2 o2 λ{E Q} q=>set_plain t.lG (uF o1 k1) Y.sa (osa_open (r:=none) t.lG (uF o1 k1) Y.plain (by unfold takerIn;rw [(Y.fld n m).1];rfl) λb=>?_)
  show wpAny _ _ (Builtin.ObjectAttr.storeInOwnDict _ _ _ _ _ _) _ _ _
  have hd:wpAny (model Ω.prog Ω.w) A.in1 (Builtin.ObjectAttr.ownDictForStores (.ref a)) (λr s'=>r=some dx/\s'={s with toks:=s.toks + 1}) (λ_ _=>False) {s with toks:=s.toks + 1}:=by
   refine wpAny_bind (wpAny_loadPart o1 (wpAny_bind (looks_clsIn (M:=model Ω.prog Ω.w) t.lG hcd _ _ _ _ (λ_ _ e=>e) ?_)))
   rw [hhd]
   exact wpAny_pure ⟨rfl,rfl⟩
  unfold Builtin.ObjectAttr.storeInOwnDict
  refine wpAny_bind (wpAny_pure (wpAny_bind (wpAny_mono hd (λr s' hr=>?_) λ_ _ f=>f.elim)))
  obtain ⟨rfl,rfl⟩:=hr
  refine wpAny_bind (wpAny_pure (wpAny_bind (wpAny_nsSet1 (m:=mm) n1 λh' m1 m2=>?_)))
  obtain ⟨oD,esD,epD,hoD,hdD,hcD⟩:=m1.count (Within.cons (toS n) u (AK n2.2.2))
  refine wpAny_bind (wpAny_lookBehind hoD (by rw [hdD];exact pastItsLine_dict (ai hcD (by rw [List.length_cons,List.length_map];exact Nat.le_succ_of_le (ai (Nat.succ_le_of_lt hl) pF)))) ?_)
  have r:=n2.set n V'
  exact wpAny_pure (q _ h' _ trivial m2 (.ns (um:=_) m1 r.1 r.2.1 r.2.2))) ae.no) ae.no
theorem LC(X:eW Ω)(t:Wl Ω Kp hp s)(V:t.V v x){n:Sx}{f:Nat}(e:zS Ω.P x n=some f){pl:Sem Bool}{E}{Q:Value×List Value->Shared->Prop}(q:Q (.ref (Ω.fA f),[v]) s):wpAny (model Ω.prog Ω.w) A (getMethod v (toS n) pl) Q E s:=by
 refine ua e (λc fs ex e=>V.lr (P:=λv=>Q (.ref (Ω.fA f),[v]) s->wpAny (model Ω.prog Ω.w) A (getMethod v (toS n) pl) Q E s) ex (λa dx h1 h2 q=>?_) q) aA
 have hn:bZ fs n=none:=by
  cases k:bZ fs n with
  | none=>rfl
  | some _=>rw [k]at e;cases e
 rw [hn]at e
 obtain ⟨m1,m2,m3, -⟩:=(X c).2.2 n f e
 obtain ⟨fi, -,Y⟩:=(X c).1 m3
 obtain ⟨mm,um,⟨od,es,ep,k1,k2,k3,k4,k5⟩,r⟩:=h2.vV
 refine method_fn t.lG (uF (t.S.fz _ _ h1) (t.S.fz _ _ k1)) Y.ga Y.gn m1 m2 ?_ q
 show (lookIn (toS n) od).map (·.isSome)=some false
 rw [sR k2 k3 k5,r.2.2 n hn];rfl
end
section
variable{Ω:Cx}{Φ Φ' Kp:Facts}{σ σ':Sg}{hp hp':Hp}{h h':Heap}{s s':Shared}{A:Around}{v u:Value}{x y z:aa}{α β:Type}{t:Wl Ω Kp hp s}{w:Tr β}{R:Rl β α}{b c:Bool}{ob ob':ak}{a:Addr}{m:HM α}
theorem DQ(t:Wl Ω Kp hp s)(c k:Nat):∃t':Wl Ω Kp {hp with D:=(hp.n + 1,.inst c hp.n)::(hp.n,.ns [])::hp.D,n:=hp.n + 2} {s with heap:=(s.heap.push emptyDict).push (instObj (Ω.cA c) s.heap.objs.size),toks:=k},t.le t'/\t'.V (.ref (s.heap.objs.size + 1)) (.af (hp.n + 1)):=by
 have f1:t.σ (.af hp.n)=none:=t.S.fresh _ _ rfl (aO _)
 have hN:(s.heap.push emptyDict).Ns s.heap.objs.size λ_=>none:=⟨_, #[],_,Heap.get?_push_size _ rfl,rfl,λe he=>absurd he (Array.not_mem_empty _),λ_=>rfl⟩
 have S1:=(t.pushS emptyDict).zQ (hp':={hp with D:=(hp.n,.ns [])::hp.D,n:=hp.n + 1}) (ob:=.ns []) (l:=.af hp.n) t.new rfl vh (λl' o q e=>Hp.oY q e) rfl
  (.ns (um:=λ_=>.none) (Heap.Ns1.of_empty hN) (λn v e=>nomatch e) (λn v e=>nomatch e) λ_ _=>rfl)
 have hs:(s.heap.push emptyDict).objs.size=s.heap.objs.size + 1:=Heap.size_push ..
 have f2:(t.σ.upd (.af hp.n) s.heap.objs.size) (.af (hp.n + 1))=none:=S1.fresh _ _ rfl (aO _)
 have S2:=(S1.ext (h':=(s.heap.push emptyDict).push (instObj (Ω.cA c) s.heap.objs.size)) λb o e=>Heap.get?_push_of_some _ e).zQ (a:=s.heap.objs.size + 1) (hp':={hp with D:=(hp.n + 1,.inst c hp.n)::(hp.n,.ns [])::hp.D,n:=hp.n + 2}) (ob:=.inst c hp.n) (l:=.af (hp.n + 1))
  (S1.ff (hs▸dc _)) rfl vh (λl' o q e=>Hp.oY (hp:={hp with D:=(hp.n,.ns [])::hp.D,n:=hp.n + 1}) q e) rfl (.inst (dx:=s.heap.objs.size) (hs▸m8) ((ow.upd f2) _ _ Sg.jY))
 exact ⟨⟨t.Φ,_,t.B,t.g,S2⟩,⟨⟨_,_,rfl⟩,.refl,(ow.upd f1).trans (ow.upd f2)⟩,.af Sg.jY⟩
noncomputable abbrev lQ(v:β):Tr β:=λE Q s=>Q v s
theorem ae.here{r:α}{v:β}(V:R t.Φ t.σ v r):ae t (aj r) (lQ v) R:=ae.fin λE Q q=>q v s t .refl V
theorem St.freeze(S:St Ω Φ Kp σ hp h)(e:hp.get x=some ob)(ha:σ x=some a):St Ω (Φ.more h [a]) Kp σ (hp.del x) h:=
 (S.del x).more [a] (λb hb=>List.mem_singleton.mp hb▸(S.apart _ _ _ e ha).2) λb hb l ob' e' q=>(Hp.gM e').2.elim (λn=>n (S.inj _ _ _ _ _ e (Hp.gM e').1 ha (List.mem_singleton.mp hb▸q))) λn=>c8 n e
theorem ae.drop{v:β}(e:hp.get x=some ob)(h:∀a (t':Wl Ω Kp (hp.del x) s),t.le t'->t.σ x=some a->t'.Φ=t.Φ.more s.heap [a]->t'.σ=t.σ->OR Ω t.Φ t.σ s.heap a ob->ae t' m (lQ v) R):ae t (te x m) (lQ v) R:=λz hp' e' E Q q=>by
 obtain ⟨a,ha,o⟩:=t.S.obj _ _ e
 have l0:t.le ⟨_,t.σ,t.B,t.g.trans Facts.cX,t.S.freeze e ha⟩:=⟨.refl,Facts.cX,.refl⟩
 exact h a _ l0 ha rfl rfl o z hp' e' E Q λv s' t' l r=>q v s' t' (l0.trans l) r
theorem wJ(V:VR Ω Φ σ v x)(S:St Ω Φ Kp σ hp h)(e:hp.get x=some ob)(ha:σ x=some a)(ef:ob.frozen=some y):VR Ω (Φ.more h [a]) σ v y:=
 fV S V (P:=λv=>VR Ω (Φ.more h [a]) σ v y) e λb hb o=>ay (hb.symm.trans ha)▸OR.freeze o ef
theorem ae.JX{v:Value}(V:t.V v x)(e:hp.get x=some ob)(ef:ob.frozen=some y):ae t (te x (aj y)) (lQ v) (VR Ω):=
 ae.drop e λa t' _ ha e1 e2 o=>ae.here (by rw [e1,e2];exact wJ V t.S e ha ef)
theorem bG.GQ{κ κ':Type} [DecidableEq κ]{R R':Value->aa->Prop}{f:κ->κ'}{vs:List (κ'×Value)}{xs:List (κ×aa)}(h:bG R f vs xs){k:κ}(m:∀v x,R v x->R' v x)(g:∀v,R v x->R' v y):i7 xs k=some x->bG R' f vs (i5 xs k y):=
 bG.rec (motive:=λvs xs _=>i7 xs k=some x->bG R' f vs (i5 xs k y)) (λe=>nomatch e) (λ{n v a vs xs} r rs ih e=>by
  rw [gQ]at e
  rw [oO]
  by_cases c:n=k
  ·rw [if_pos c]at e ⊢;exact .cons (g v (ay e▸r)) (bG.rec .nil (λa _ b=>.cons (m _ _ a) b) rs)
  ·rw [if_neg c]at e ⊢;exact .cons (m _ _ r) (ih e)) h
theorem bG.up{κ κ':Type}{R R':Value->aa->Prop}{f:κ->κ'}{vs:List (κ'×Value)}{xs:List (κ×aa)}(h:bG R f vs xs)(g:∀v x,R v x->R' v x):bG R' f vs xs:=bG.rec .nil (λa _ b=>.cons (g _ _ a) b) h
noncomputable abbrev RK(Ω:Cx)(kvs':List (PySem.Str×Value)):Rl Unit (List (Sx×aa)):=λΦ σ _ kvs=>bG (VR Ω Φ σ) toS kvs' kvs
theorem qo{kvs':List (PySem.Str×Value)}{kvs:List (Sx×aa)}(W:bG (VR Ω t.Φ t.σ) toS kvs' kvs)(k:Sx):ae t (fZ kvs k) (lQ ()) (RK Ω kvs'):=by
 unfold fZ
 cases e1:bZ kvs k with
 | none=>exact ae.no
 | some x=>
  show ae t (bif isRef x then rQ x λo=>oS o (λo=>oS o.frozen (λv h=>some (sset kvs k v,h.del x)) no) no else aj kvs) (lQ ()) (RK Ω kvs')
  cases c:isRef x with
  | false=>exact ae.here W
  | true=>
   refine ae.ge (k:=λo=>oS o (λo=>oS o.frozen (λv h=>some (sset kvs k v,h.del x)) no) no) ?_
   cases e2:hp.get x with
   | none=>exact ae.no
   | some o=>
    show ae t (oS o.frozen (λv h=>some (sset kvs k v,h.del x)) no) (lQ ()) (RK Ω kvs')
    cases ef:o.frozen with
    | none=>exact ae.no
    | some y=>exact ae.drop (m:=aj (sset kvs k y)) e2 λa t' l ha e3 e4 _=>ae.here (by rw [e3,e4];exact bG.GQ W (λ_ _=>VR.mono Facts.cX .refl) (λv r=>wJ r t.S e2 ha ef) e1)
theorem xY{kvs':List (PySem.Str×Value)}(ks:List Sx):∀{hp s} (t:Wl Ω Kp hp s) {kvs:List (Sx×aa)},bG (VR Ω t.Φ t.σ) toS kvs' kvs->ae t (d5 kvs ks) (lQ ()) (RK Ω kvs'):=
 List.rec (motive:=λks=>∀{hp s} (t:Wl Ω Kp hp s) {kvs:List (Sx×aa)},bG (VR Ω t.Φ t.σ) toS kvs' kvs->ae t (d5 kvs ks) (lQ ()) (RK Ω kvs')) (λt _ W=>ae.here W)
  (λk ks ih hp s t kvs W=>ae.bE (w:=lQ ()) (f:=λ_=>lQ ()) (qo W k) λkvs1 _ t1 _ W1=>ih t1 W1) ks
theorem St.Ik{did:Nat}{dx:Addr}{l:aa}{oc:ak}{od:ak}(S:St Ω Φ Kp σ hp h)(e1:hp.get l=some oc)(ha:σ l=some a)(e2:hp.get (.af did)=some od)(hd:σ (.af did)=some dx):St Ω (Φ.more h [a,dx]) Kp σ ((hp.del l).del (.af did)) h:=
 ((S.del l).del (.af did)).more [a,dx] (λb hb=>(List.mem_cons.mp hb).elim (λq=>q▸(S.apart _ _ _ e1 ha).2) λq=>(List.mem_singleton.mp q)▸(S.apart _ _ _ e2 hd).2) λb hb l' ob' e' q=>
  have d2:=Hp.gM e'
  have d1:=Hp.gM d2.1
  (List.mem_cons.mp hb).elim (λk=>d1.2.elim (λn=>n (S.inj _ _ _ _ _ e1 d1.1 ha (k▸q))) λn=>c8 n e1) λk=>
   have k2:=S.inj _ _ _ _ _ e2 d1.1 hd (List.mem_singleton.mp k▸q)
   d2.2.elim (λn=>n k2) λn=>c8 n (k2▸d2.1)
theorem JR(V:t.V v x)(ks:List Sx):ae t (yH x ks) (lQ v) (VR Ω):=
 ae.FY (λid ex=>ae.ge <| ae.oL (λxs e=>ae.JX V e rfl) <| ae.ie (λkvs e=>fV t.S V e (P:=λv=>ae t (te x (aL (d5 kvs ks) λkvs=>aj (.sd kvs))) (lQ v) (VR Ω)) λa ha o=>o.iS.elim λkvs' k=>
   ae.drop e λa' t' l ha' e1 e2 _=>by
    obtain rfl:=ay (ha.symm.trans ha')
    have W:bG (VR Ω t'.Φ t'.σ) toS kvs' kvs:=by rw [e1,e2];exact k.2.up λ_ _=>VR.mono Facts.cX .refl
    exact ae.bE (w:=lQ ()) (f:=λ_=>lQ (Value.ref a)) (R:=RK Ω kvs') (R':=VR Ω) (xY ks t' W) λkvs1 _ t1 l1 W1=>ae.here (VR.sd (.sd (k.1.mono λo q=>l1.l _ _ (by rw [e1];exact .inr ⟨jN _,q⟩)) W1))) <|
  ae.oF (λkvs e=>ae.JX V e rfl) <| ae.FZ (λc did e1=>ae.ge <| ae.DK (λkvs e2=>fV t.S V e1 (P:=λv=>ae t (te x (te (.af did) (aj (.inst c kvs)))) (lQ v) (VR Ω)) λa ha o=>by
   obtain ⟨dx,o1,o2⟩:=o.lr
   obtain ⟨dx',q,O'⟩:=t.S.obj (.af did) _ e2
   obtain ⟨mm,um,n1,n2⟩:=(ay (q.symm.trans o2)▸O':OR Ω t.Φ t.σ s.heap dx (.ns kvs)).vV
   intro z hp' e E Q q
   refine jP (P:=λz hp'=>(∀v s' (t':Wl Ω Kp hp' s'),t.le t'->VR Ω t'.Φ t'.σ v z->Q v s')->Q _ _) e (λq=>q _ _ ⟨_,t.σ,t.B,t.g.trans Facts.cX,t.S.Ik e1 ha e2 o2⟩ ⟨.refl,Facts.cX,.refl⟩
    (.inst (.inr ⟨aF,o1⟩) (.ns (n1.mono λo q=>.inr ⟨bB _ (jN _),q⟩) n2.1 (λn v e=>(n2.2.1 n v e).mono Facts.cX .refl) n2.2.2))) q) ae.no) ae.no) <|
 ae.gd λ_=>ae.here V
end
inductive Ck(p:Prop):Type where
 | y (h:p) | n
noncomputable def Ck.b{p:Prop}:Ck p->Bool
 | .y _=>true
 | .n=>false
theorem Ck.get{p:Prop}:∀{c:Ck p},c.b=true->p
 | .y h,_=>h
noncomputable def Ck.bind{p q:Prop}:Ck p->(p->Ck q)->Ck q
 | .y h,f=>f h
 | .n,_=>.n
noncomputable def Ck.aH{q:Prop}:(b:Bool)->(b=true->Ck q)->Ck q
 | true,f=>f rfl
 | false,_=>.n
noncomputable def Ck.map{p q:Prop}(c:Ck p)(f:p->q):Ck q:=c.bind λh=>.y (f h)
noncomputable def Ck.both{p q r:Prop}(c:Ck p)(d:Ck q)(f:p->q->r):Ck r:=c.bind λh=>d.bind λk=>.y (f h k)
theorem mQ{a b:Bool}(h:(a&&b)=true):a=true/\b=true:=Bool.and_eq_true_iff.mp h
theorem oH{a:Bool}(h:(!a)=true):a=false:=(Bool.not_eq_true' _).mp h
noncomputable abbrev bc:=List (PySem.Str×NameKind)
noncomputable abbrev Slots:=List (PySem.Str×Nat)
noncomputable def code(s:PySem.Str):Nat:=s.cps.toList.foldl (λa c=>a * 256 + c) 1
noncomputable def sEq(a b:PySem.Str):Bool:=Nat.beq (code a) (code b)&&(a.cps.toList==b.cps.toList)
theorem iF{a b:PySem.Str}(h:sEq a b=true):a=b:=(qc a).symm.trans ((congrArg toS (beq_iff_eq.mp (mQ h).2)).trans (qc b))
theorem oB(a b:PySem.Str):sEq a b=(a==b):=by
 by_cases h:a=b
 ·rw [h,beq_self_eq_true]
  unfold sEq
  rw [beq_self_eq_true,Nat.beq_refl];rfl
 ·rw [beq_eq_false_iff_ne.mpr h]
  cases q:sEq a b with
  | true=>exact absurd (iF q) h
  | false=>rfl
noncomputable def eQ{β:Type}:List (PySem.Str×β)->PySem.Str->Option β
 | [],_=>none
 | p::r,x=>bif sEq x p.1 then some p.2 else eQ r x
theorem eP{β:Type}(l:List (PySem.Str×β))(x:PySem.Str):eQ l x=l.lookup x:=List.rec (motive:=λl=>eQ l x=l.lookup x) rfl (λp r ih=>by
 show (bif sEq x p.1 then some p.2 else eQ r x)=List.lookup x ((p.1,p.2)::r)
 rw [List.lookup_cons,oB,ih]
 cases x==p.1 <;> rfl) l
noncomputable def mz:List PySem.Str->Bool
 | []=>true
 | x::r=> !r.any (sEq x)&&mz r
theorem kZ(l:List PySem.Str):mz l=true->l.Nodup:=List.rec (motive:=λl=>mz l=true->l.Nodup) (λ_=>.nil) (λx r ih h=>
 List.nodup_cons.mpr ⟨λhx=>List.any_eq_false.mp (oH (mQ h).1) x hx (by rw [oB,beq_self_eq_true]),ih (mQ h).2⟩) l
noncomputable def uc:List Nat->Bool
 | []=>true
 | x::r=> !r.any (Nat.beq x)&&uc r
theorem A9(l:List Nat):uc l=true->l.Nodup:=List.rec (motive:=λl=>uc l=true->l.Nodup) (λ_=>.nil) (λx r ih h=>
 List.nodup_cons.mpr ⟨λhx=>List.any_eq_false.mp (oH (mQ h).1) x hx (Nat.beq_refl x),ih (mQ h).2⟩) l
noncomputable def Ju:NameKind->Nat
 | .local=>0
 | .cell=>1
 | .free=>2
 | .globalImplicit=>3
 | _=>4
noncomputable def dS(o:Option NameKind)(k:Nat):Bool:=match o with
 | some j=>Nat.beq (Ju j) k
 | none=>false
theorem lk{o:Option NameKind}{k:Nat}(h:dS o k=true):∃j,o=some j/\Ju j=k:=by
 cases o with
 | none=>cases h
 | some j=>exact ⟨j,rfl,jM h⟩
theorem Jw{o:Option NameKind}(h:dS o 0=true):o=some .local:=(lk h).elim λj k=>k.1.trans (congrArg some (by cases j <;> first | rfl | cases k.2))
theorem Jv{o:Option NameKind}(h:dS o 1=true):o=some .cell:=(lk h).elim λj k=>k.1.trans (congrArg some (by cases j <;> first | rfl | cases k.2))
theorem PR{o:Option NameKind}(h:dS o 2=true):o=some .free:=(lk h).elim λj k=>k.1.trans (congrArg some (by cases j <;> first | rfl | cases k.2))
theorem PQ{o:Option NameKind}(h:dS o 3=true):o=some .globalImplicit:=(lk h).elim λj k=>k.1.trans (congrArg some (by cases j <;> first | rfl | cases k.2))
noncomputable def mL(o:Option Nat)(i:Nat):Bool:=match o with
 | some j=>Nat.beq j i
 | none=>false
theorem ta{o:Option Nat}{i:Nat}(h:mL o i=true):o=some i:=by
 cases o with
 | none=>cases h
 | some j=>rw [jM h]
noncomputable def Nk(s:Sx):Bool:=s.all λc=>decide (c < 128)
theorem Ay{s:Sx}(h:Nk s=true):Cs s:=λc hc=>of_decide_eq_true (List.all_eq_true.mp h c hc)
noncomputable def As{α β:Type}{R:α->β->Prop}(f:(v:α)->(x:β)->Ck (R v x)):(vs:List α)->(xs:List β)->Ck (bD R vs xs)
 | [],[]=>.y .nil
 | v::vs,x::xs=>(f v x).both (As f vs xs) .cons
 | _,_=>.n
section
variable{Ω:Cx}{Φ Φ' Kp Kp':Facts}{σ σ':Sg}{hp hp':Hp}{h h':Heap}{s s':Shared}{A:Around}{v u:Value}{x y z:aa}{α β:Type}{t:Wl Ω Kp hp s}{w:Tr β}{R:Rl β α}{b c:Bool}{ob ob':ak}{a:Addr}
noncomputable def Va(Ω:Cx)(v:Value)(x:aa):Prop:=∀{Φ σ},(∀a o,Ω.K.lookup a=some o->Φ a o)->VR Ω Φ σ v x
noncomputable def N7(v:Value)(x:aa):Ck (Va Ω v x):=match x with
 | .none=>match v with
  | .none=>.y λ_=>.none
  | _=>.n
 | .bool b=>match v with
  | .bool c=>.aH (c==b) λe=>.y λ_=>(beq_iff_eq.mp e)▸ .bool _
  | _=>.n
 | .int i=>match v with
  | .int j _=>.aH (j==i) λe=>.y λ_=>(beq_iff_eq.mp e)▸ .int _ _
  | _=>.n
 | .str s=>match v with
  | .str y _=>.aH (sEq y (toS s)) λe=>.aH (Nk s) λk=>.y λ_=>(iF e).symm▸ .str _ _ (Ay k)
  | _=>.n
 | _=>.n
noncomputable def Ug:Nat->(v:Value)->(x:aa)->Ck (Va Ω v x)
 | 0,v,x=>N7 v x
 | n + 1,v,x=>match x with
  | .tup xs=>match v with
   | .ref a=>match k:Ω.K.lookup a with
    | some ⟨.type t,_,.seq vs _,_⟩=>.aH (t=="tuple") λe=>(As (Ug n) vs.toList xs).map λr=>λm=>.tup (m a _ k) (congrArg Value.type (beq_iff_eq.mp e)) rfl (bD.rec .nil (λa _ b=>.cons (a m) b) r)
    | _=>.n
   | _=>.n
  | x=>N7 v x
noncomputable def MP(c:Const)(x:aa):Ck (∀{kd:Nat} {pos:Pos} {env} {Kp hp s} (t:Wl Ω Kp hp s),ae t (aj x) (Wp Ω A (eval (.Constant c kd pos) env)) (VR Ω)):=match x with
 | .none=>match c with
  | .none=>.y λ_=>ae.val λq=>wpAny_Constant_none (q _ _ .none)
  | _=>.n
 | .bool b=>match c with
  | .bool c=>.aH (c==b) λe=>.y λ_=>ae.val λq=>wpAny_Constant_bool (q _ _ ((beq_iff_eq.mp e)▸ .bool _))
  | _=>.n
 | .int i=>match c with
  | .int j=>.aH (j==i) λe=>.y λ_=>ae.val λq=>wpAny_Constant_int (q _ _ ((beq_iff_eq.mp e)▸ .int _ _))
  | _=>.n
 | .str s=>match c with
  | .str y=>.aH (sEq y (toS s)) λe=>.aH (Nk s) λk=>.y λ_=>ae.val λq=>PySem.Calls.Constant_str (q _ _ ((iF e).symm▸ .str _ _ (Ay k)))
  | _=>.n
 | _=>.n
noncomputable def R6(P:Facts)(a:Addr)(m:PySem.Str->Option Value):Prop:=∃o es ep,P a o/\o.data= .dict es ep/\StrKeys es/\∀name,nsFind es name=m name
theorem R6.mono{P P':Facts}{m:PySem.Str->Option Value}(x:R6 P a m)(hp:Rp a P P'):R6 P' a m:=x.imp λ_ x=>x.imp λ_ x=>x.imp λ_ x=>x.imp_left (hp _)
structure zm(Ω:Cx)(Φ Kp:Facts)(σ:Sg)(env:PySem.Env)(sl:Slots)(me:Mn.Env):Prop where
 fn:env.scope.kind= .function
 gl:env.globals=mainGlobals
 bl:env.builtins=builtinsNs
 QL:∀n i,sl.lookup n=some i->(n==("__debug__":PySem.Str))=false
 inj:∀n n' i,sl.lookup n=some i->sl.lookup n'=some i->n=n'
 cells:∀n,env.kindOf n=some .cell->∃c o v,env.cells.lookup n=some c/\Kp c o/\o.data= .cell v
 vars:∃m,R6 Kp env.locals m/\∀n i x,sl.lookup n=some i->me[i]?=some x->x≠ .undef->∃v,VR Ω Φ σ v x/\
  ((env.kindOf n=some .local/\m n=some v)\/(env.kindOf n=some .cell/\∃c o,env.cells.lookup n=some c/\Kp c o/\o.data= .cell (some v)))
theorem zm.mono{env sl me}(R:zm Ω Φ Kp σ env sl me)(l:Le Φ Φ')(r:ow σ σ'):zm Ω Φ' Kp σ' env sl me:=
 {R with vars:=R.vars.imp λm x=>⟨x.1,λn i y e1 e2 e3=>(x.2 n i y e1 e2 e3).imp λv z=>⟨z.1.mono l r,z.2⟩⟩}
theorem zm.keep{env sl me}(R:zm Ω Φ Kp σ env sl me)(l:Le Kp Kp'):zm Ω Φ Kp' σ env sl me:=
 {R with
  cells:=λn e=>(R.cells n e).imp λc k=>k.imp λo k=>k.imp λv k=>⟨k.1,l _ _ k.2.1,k.2.2⟩
  vars:=R.vars.imp λm x=>⟨x.1.mono (l _),λn i y e1 e2 e3=>(x.2 n i y e1 e2 e3).imp λv z=>⟨z.1,z.2.imp_right λk=>⟨k.1,k.2.imp λc k=>k.imp λo k=>⟨k.1,l _ _ k.2.1,k.2.2⟩⟩⟩⟩}
noncomputable def Rm(d:Nat)(A:Around):Prop:=A.handled=none/\A.depth + 2 * d + 2<=recursionLimit/\A.units + 64 + 16 * d < cLine
noncomputable def lF(d:Nat)(A:Around):Prop:=A.handled=none/\A.depth + 2 * d + 3<=recursionLimit/\A.units + 72 + 16 * d < cLine
theorem lF.rm{d:Nat}(r:lF d A):Rm d A:=⟨r.1,by have:=r.2.1;omega,by have:=r.2.2;omega⟩
theorem lF.un{d:Nat}(r:lF d A):A.units + 64 < cLine:=by have:=r.2.2;omega
noncomputable abbrev Cw(Ω:Cx)(A:Around)(f:Nat)(vs:List Value):Tr Value:=λ_ Q s=>∀R:Result->Shared->Prop,(∀v s',Q v s'->R (.ok (.ret v)) s')->codeAny (model Ω.prog Ω.w) A (.call (.ref (Ω.fA f)) ⟨vs,[]⟩) R s
noncomputable def fc(Ω:Cx)(C:jj)(d:Nat):Prop:=∀{A},Rm d A->∀{f xs Kp hp s} (t:Wl Ω Kp hp s) {vs},fT Ω t.Φ t.σ vs xs->ae t (C f xs) (Cw Ω A f vs) (VR Ω)
variable{ns:bc}{sl:Slots}{env:PySem.Env}{me:Mn.Env}{C:jj}{pa pb:Expr}{ma mb:ME}{pos:Pos}
structure Fr(t:Wl Ω Kp hp s)(env:PySem.Env)(ns:bc)(sl:Slots)(me:Mn.Env):Prop where
 en:env.scope.names=ns
 R:zm Ω t.Φ Kp t.σ env sl me
theorem Fr.le{s' hp'}{t':Wl Ω Kp hp' s'}(F:Fr t env ns sl me)(l:t.le t'):Fr t' env ns sl me:=⟨F.en,F.R.mono l.l l.r⟩
theorem Wl.le.V{s' hp'}{t':Wl Ω Kp hp' s'}(l:t.le t')(V:t.V v x):t'.V v x:=V.mono l.l l.r
variable(Ω A C)in
noncomputable def ES(ns:bc)(sl:Slots)(a:ME)(pa:Expr):Prop:=∀{env Kp hp s me} {t:Wl Ω Kp hp s},Fr t env ns sl me->ae t (ev Ω.P C a me) (Wp Ω A (eval pa env)) (VR Ω)
noncomputable abbrev Wt(Ω:Cx)(A:Around)(pa:Expr)(env:PySem.Env):Tr Bool:=Wp Ω A (isTrue pa env (eval pa env))
variable(Ω A C)in
noncomputable def TS(ns:bc)(sl:Slots)(a:ME)(pa:Expr):Prop:=∀{env Kp hp s me} {t:Wl Ω Kp hp s},Fr t env ns sl me->ae t (aL (ev Ω.P C a me) dY) (Wt Ω A pa env) RB
theorem one{γ δ:Type}{R':Rl δ γ}{k:aa->HM γ}{f:Value->Tr δ}(ha:ES Ω A C ns sl ma pa)(F:Fr t env ns sl me)
  (h:∀{hp1 s1} {x v} {t1:Wl Ω Kp hp1 s1},t.le t1->Fr t1 env ns sl me->t1.V v x->ae t1 (k x) (f v) R'):ae t (aL (ev Ω.P C ma me) k) ((Wp Ω A (eval pa env)).bind f) R':=
 ae.bE (ha F) λx v t1 l V=>h l (F.le l) V
theorem two{γ δ:Type}{R':Rl δ γ}{k:aa->aa->HM γ}{f:Value->Value->Tr δ}(ha:ES Ω A C ns sl ma pa)(hb:ES Ω A C ns sl mb pb)(F:Fr t env ns sl me)
  (h:∀{hp1 s1} {x y v u} {t1:Wl Ω Kp hp1 s1},t.le t1->Fr t1 env ns sl me->t1.V v x->t1.V u y->ae t1 (k x y) (f v u) R'):
  ae t (aL (ev Ω.P C ma me) λx=>aL (ev Ω.P C mb me) (k x)) ((Wp Ω A (eval pa env)).bind λv=>(Wp Ω A (eval pb env)).bind (f v)) R':=
 one ha F λl F V=>one hb F λl2 F V2=>h (l.trans l2) F (l2.V V) V2
theorem Kn{γ δ:Type}{R':Rl δ γ}{k:Bool->HM γ}{f:Bool->Tr δ}(ha:TS Ω A C ns sl ma pa)(F:Fr t env ns sl me)
  (h:∀{hp1 s1} {b} {t1:Wl Ω Kp hp1 s1},t.le t1->Fr t1 env ns sl me->ae t1 (k b) (f b) R'):ae t (aL (aL (ev Ω.P C ma me) dY) k) ((Wt Ω A pa env).bind f) R':=
 ae.bE (ha F) λx v t1 l V=>(show v=x from V)▸h l (F.le l)
theorem bF{α β γ:Type}{m:HM α}{k:α->HM β}{g:β->HM γ}:aL (aL m k) g=aL m λa=>aL (k a) g:=funext λh=>by
 show (match (match m h with | some (a,h)=>k a h | none=>none)with | some (a,h)=>g a h | none=>none)=(match m h with | some (a,h)=>(match k a h with | some (a,h)=>g a h | none=>none) | none=>none)
 cases m h with
 | none=>rfl
 | some p=>rfl
end
noncomputable def mM(ns:bc)(id:PySem.Str):Bool:=dS (eQ ns id) 3&& !sEq id "__debug__"
noncomputable def Ee(name:PySem.Str)(e:DictEntry):Bool:=match e.key with
 | .str n _=>sEq n name
 | _=>false
set_option backward.match.sparseCases true in
noncomputable def nq(K:Frag)(ns:Addr)(name:PySem.Str):Option (Option Value):=match K.lookup ns with
 | some ⟨_,_,.dict es _,_⟩=>(match es.toList.find? (Ee name)with
   | some e=>some (some e.val)
   | none=>if es.toList.any (·.refKey)then none else some none)
 | _=>none
theorem Ed(name:PySem.Str):Ee name=λe=>e.key.isStr name:=by
 funext e
 unfold Ee
 cases h:e.key <;> first | exact oB _ _ | rfl
theorem qw(K:Frag)(a:Addr)(name:PySem.Str):nq K a name=nsIn K a name:=by
 unfold nq nsIn
 rw [Ed]
 rfl
section
variable{Ω:Cx}{Φ Φ' Kp Kp':Facts}{σ σ':Sg}{hp hp':Hp}{h h':Heap}{s s':Shared}{A:Around}{v u:Value}{x y z:aa}{α β:Type}{t:Wl Ω Kp hp s}{w:Tr β}{R:Rl β α}{b c:Bool}{ob ob':ak}{a:Addr}
variable{ns:bc}{sl:Slots}{env:PySem.Env}{me:Mn.Env}{C:jj}{pa pb pc:Expr}{ma mb mc:ME}{pos:Pos}{E:Value->Shared->Prop}{Q:Value->Shared->Prop}
theorem Ai(F:Fr t env ns sl me){id:PySem.Str}(e:mM ns id=true):env.kindOf id=some .globalImplicit/\(id==("__debug__":PySem.Str))=false:=
 ⟨by show env.scope.names.lookup id=_;rw [F.en,<-eP];exact PQ (mQ e).1,by rw [<-oB];exact oH (mQ e).2⟩
theorem Wl.old(t:Wl Ω Kp hp s):∀b o,Ω.h0.get? b=some o->s.heap.get? b=some o:=λb o e=>t.S.fz _ _ (t.g _ _ e)
theorem oX(F:Fr t env ns sl me){id:PySem.Str}(e:mM ns id=true)(e2:nq Ω.K mainGlobals id=some (some v))(q:Q v s):wpAny (model Ω.prog Ω.w) A (eval (.Name id pos) env) Q E s:=by
 obtain ⟨k1,k2⟩:=Ai F e
 obtain ⟨mg,hg⟩:=t.B.glob
 have hg:=hg.keeps t.old
 exact PySem.Calls.Name_function_global F.R.fn k1 (PySem.Calls.loadGlobal_global (by rw [F.R.gl];exact hg) (mg_of t.lG hg (qw .. ▸e2)) q) k2
structure NA(Ω:Cx)(ns:bc)(id:PySem.Str)(a:Addr):Prop where
 ok:mM ns id=true
 is:nq Ω.K mainGlobals id=some (some (.ref a))
 keep:keepIn Ω.K (.ref a)=true
noncomputable def bw(ns:bc)(id:PySem.Str)(a:Addr):Ck (NA Ω ns id a):=.aH (mM ns id) λh1=>match h2:nq Ω.K mainGlobals id with
 | some (some (.ref b))=>.aH (Nat.beq b a) λh3=>.aH (keepIn Ω.K (.ref b)) λh4=>.y (jM h3▸⟨h1,h2,h4⟩)
 | _=>.n
structure Built(Ω:Cx)(ns:bc)(id x:PySem.Str):Prop where
 ok:mM ns id=true
 is:nq Ω.K mainGlobals id=some none
 eq:id=x
noncomputable def wU(ns:bc)(id x:PySem.Str):Ck (Built Ω ns id x):=.aH (sEq id x) λh0=>.aH (mM ns id) λh1=>match h2:nq Ω.K mainGlobals id with
 | some none=>.y ⟨h1,h2,iF h0⟩
 | _=>.n
theorem hU(F:Fr t env ns sl me){id x:PySem.Str}(e:Built Ω ns id x)(hx:x≠"__name__")(hv:bootBuiltins x=some v)(q:Q v s):wpAny (model Ω.prog Ω.w) A (eval (.Name id pos) env) Q E s:=by
 obtain ⟨k1,k2⟩:=Ai F e.ok
 obtain ⟨mg,hg⟩:=t.B.glob
 obtain ⟨mb,hb,hbn⟩:=t.B.U7
 have hg:=hg.keeps t.old
 exact PySem.Calls.Name_function_global F.R.fn k1 (PySem.Calls.loadGlobal_builtin (by rw [F.R.gl];exact hg) (ns_none_of t.lG hg (qw .. ▸e.is)) (by rw [F.R.bl];exact hb.keeps t.old) (by rw [e.eq];exact (hbn _ hx).trans hv) q) k2
noncomputable def Wn(ns:bc)(sl:Slots)(n:Sx)(v:aa)(id:PySem.Str):Ck (∀{pos},ES Ω A C ns sl (.gc n v) (.Name id pos)):=.aH (mM ns id) λh1=>match h2:nq Ω.K mainGlobals id with
 | some (some w)=>(Ug 3 w v).map λk {_ env Kp hp s me t} F=>ae.val λq=>oX F h1 h2 (q w s.toks (k λa o e=>t.g _ _ (t.B.lG a o e)))
 | _=>.n
theorem MM{x:aa}(h:gj x=true):x≠ .undef:=λq=>by rw [q]at h;cases h
theorem Cv{i:Nat}{id:PySem.Str}(e:mL (eQ sl id) i=true):ES Ω A C ns sl (.v i) (.Name id pos):=λ{env Kp hp s me t} F=>ae.op λx e2=>ae.gd λhd=>ae.val λq=>by
 have e:=(eP sl id).symm.trans (ta e)
 obtain ⟨m,h1,h2⟩:=F.R.vars
 obtain ⟨v,r,h3⟩:=h2 id i x e e2 (MM hd)
 have d:=F.R.QL id i e
 rcases h3 with ⟨k1,k2⟩ | ⟨k1,c,o,k2,k3,k4⟩
 ·exact wpAny_Name (wpAny_loadName_local F.R.fn k1 (show s.heap.Ns _ _ from h1.mono (t.S.kp _)) k2 (q v s.toks r)) d
 ·exact wpAny_Name (wpAny_loadName_cell F.R.fn k1 k2 ⟨o,t.S.kp _ _ k3,k4⟩ (q v s.toks r)) d
theorem FP{m:Mode}(ha:ES Ω A C ns sl ma pa)(hb:ES Ω A C ns sl mb pb):ES Ω A C ns sl (.add m ma mb) (.BinOp pa .Add pb pos):=λF=>ae.wp wpAny_BinOp (two ha hb F λ_ _ V V'=>Q8 V V')
theorem CN(ha:ES Ω A C ns sl ma pa)(hb:ES Ω A C ns sl mb pb):ES Ω A C ns sl (.sub ma mb) (.BinOp pa .Sub pb pos):=λF=>ae.wp wpAny_BinOp (two ha hb F λ_ _ V V'=>Ov V V')
theorem DV(ha:ES Ω A C ns sl ma pa)(hb:ES Ω A C ns sl mb pb):ES Ω A C ns sl (.mod ma mb) (.BinOp pa .Mod pb pos):=λF=>ae.wp wpAny_BinOp (two ha hb F λ_ _ V V'=>Px V V')
theorem BI(ha:ES Ω A C ns sl ma pa)(hb:ES Ω A C ns sl mb pb):ES Ω A C ns sl (.fdiv ma mb) (.BinOp pa .FloorDiv pb pos):=λF=>ae.wp wpAny_BinOp (two ha hb F λ_ _ V V'=>My V V')
theorem B0(ha:ES Ω A C ns sl ma pa)(hb:ES Ω A C ns sl mb pb):ES Ω A C ns sl (.band ma mb) (.BinOp pa .BitAnd pb pos):=λF=>ae.wp wpAny_BinOp (two ha hb F λ_ _ V V'=>Nf V V')
theorem DS(ha:ES Ω A C ns sl ma pa):ES Ω A C ns sl (.neg ma) (.UnaryOp .USub pa pos):=λF=>ae.wp wpAny_UnaryOp (one ha F λ_ _ V=>ae.gu (λi ex=>Pu V ex) ae.no)
theorem Pm(V:t.V v x):ae t (aL (dY x) λb=>aj (.bool (!b))) (Wp Ω A (unaryOp .Not v)) (VR Ω):=
 ae.wp (w':=(Wp Ω A (truthy v)).bind λb=>lQ (Value.bool (!b))) (λh=>PyProof.Rows.not_of h) (ae.bE (pM V) λb c t1 l e=>ae.here ((show c=b from e)▸ .bool _))
theorem DL(ha:ES Ω A C ns sl ma pa):ES Ω A C ns sl (.not ma) (.UnaryOp .Not pa pos):=λF=>ae.wp wpAny_UnaryOp (one ha F λ_ _ V=>Pm V)
theorem vx(ha:ES Ω A C ns sl ma pa)(he:∀env whole,isTrue pa env whole=(do let v <-whole;standAt pa.pos;holding [v] (truthy v))):TS Ω A C ns sl ma pa:=λF=>ae.wp (λh=>isTrue_plain h (he _ _)) (one ha F λ_ _ V=>pM V)
theorem ae.MC{m m':HM α}(e:m=m')(h:ae t m' w R):ae t m w R:=e▸h
theorem Rv{b:Bool}:aL (aj (aa.bool b)) dY=aj b:=rfl
theorem A7(ha:TS Ω A C ns sl ma pa):TS Ω A C ns sl (.not ma) (.UnaryOp .Not pa pos):=λF=>ae.MC (m':=aL (aL (ev Ω.P C ma _) dY) λb=>aj (!b)) ((bF (k:=λx=>aL (dY x) λb=>aj (aa.bool (!b)))).trans ((congrArg (aL _) (funext λx=>bF)).trans bF.symm))
 (ae.wp isTrue_not (Kn ha F λ{_ _ b _} _ _=>ae.here (v:= !b) rfl))
end
section
variable{Ω:Cx}{Φ Φ' Kp Kp':Facts}{σ σ':Sg}{hp hp':Hp}{h h':Heap}{s s':Shared}{A:Around}{v u:Value}{x y z:aa}{α β γ δ:Type}{t:Wl Ω Kp hp s}{w w1 w2:Tr β}{R:Rl β α}{R':Rl δ γ}{b c:Bool}{a:Addr}{m n:HM α}
variable{C:jj}{ns:bc}{sl:Slots}{env:PySem.Env}{me:Mn.Env}{pa pb pc:Expr}{ma mb mc:ME}{pos:Pos}{d:Nat}
noncomputable def Gb(b:Bool)(w1 w2:Tr β):Tr β:=λE Q s=>if b=true then w1 E Q s else w2 E Q s
theorem ae.bx(h1:b=true->ae t m w1 R)(h2:b=false->ae t n w2 R):ae t (gJ b m n) (Gb b w1 w2) R:=
 match b,h1,h2 with
 | true,h1,_=>h1 rfl
 | false,_,h2=>h2 rfl
theorem ae.map{f:α->γ}{R':Rl β γ}(h:ae t m w R)(g:∀{hp1 s1 v x} {t1:Wl Ω Kp hp1 s1},t.le t1->R t1.Φ t1.σ v x->R' t1.Φ t1.σ v (f x)):ae t (aL m λx=>aj (f x)) w R':=
 λx hp' e E Q q=>ed e λa h1 e1 e2=>h a h1 e1 E Q λv s1 t1 l1 r1=>jP (P:=λx hp'=>(∀v s' (t':Wl Ω Kp hp' s'),t.le t'->R' t'.Φ t'.σ v x->Q v s')->Q v s1) e2 (λq=>q v s1 t1 l1 (g l1 r1)) q
theorem ae.then{f:β->Tr δ}{R':Rl δ α}(h:ae t m w R)(g:∀{hp1 s1 v x} {t1:Wl Ω Kp hp1 s1},t.le t1->R t1.Φ t1.σ v x->ae t1 (aj x) (f v) R'):ae t m (w.bind f) R':=
 λx hp' e E Q q=>h x hp' e E _ λv s1 t1 l1 r1=>g l1 r1 x hp' rfl E Q λu s2 t2 l2 r2=>q u s2 t2 (l1.trans l2) r2
theorem ae.tb{f:Bool->Tr β}(h:ae t m (f b) R):ae t m ((Wp Ω A (truthy (.bool b))).bind f) R:=ae.wp wpAny_truthy_bool h
theorem Eo(hc:TS Ω A C ns sl mc pc)(ha:ES Ω A C ns sl ma pa)(hb:ES Ω A C ns sl mb pb):ES Ω A C ns sl (.ite mc ma mb) (.IfExp pc pa pb pos):=λF=>
 ae.MC bF.symm (ae.wp wpAny_IfExp (Kn hc F λ{_ _ b _} l F=>ae.bx (w1:=Wp Ω A (eval pa _)) (w2:=Wp Ω A (eval pb _)) (λ_=>ha F) λ_=>hb F))
theorem Ad{k k':HM aa}:aL (gJ b k k') dY=gJ b (aL k dY) (aL k' dY):=by cases b <;> rfl
theorem Bw(hc:TS Ω A C ns sl mc pc)(ha:TS Ω A C ns sl ma pa)(hb:TS Ω A C ns sl mb pb):TS Ω A C ns sl (.ite mc ma mb) (.IfExp pc pa pb pos):=λF=>
 ae.MC ((congrArg (aL · dY) bF.symm).trans (bF.trans (congrArg (aL _) (funext λb=>Ad)))) (ae.wp isTrue_IfExp (Kn hc F λ{_ _ b _} l F=>ae.bx (w1:=Wt Ω A pa _) (w2:=Wt Ω A pb _) (λ_=>ha F) λ_=>hb F))
theorem Aq{o:AG}(hr:lF d A)(V:t.V v x)(V':t.V u y):ae t (lO λh=>ck h o x y) (Wp Ω A (compareOp (hH o) v u)) RV:=ae.rd λb e=>QT V V' hr.un e
theorem J1{o:AG}(hr:lF d A)(V:t.V v x)(V':t.V u y):ae t (aL (lO λh=>ck h o x y) λb=>aj (.bool b)) (Wp Ω A (compareOp (hH o) v u)) (VR Ω):=(Aq hr V V').map λ_ r=>(show _=_ from r)▸ .bool _
theorem cmp_T{o:AG}(hr:lF d A)(V:t.V v x)(V':t.V u y):ae t (lO λh=>ck h o x y) ((Wp Ω A (compareOp (hH o) v u)).bind λc=>Wp Ω A (truthy c)) RB:=
 (Aq hr V V').then λ{_ _ v b t1} _ r=>(show v= .bool b from r)▸ae.val λq=>wpAny_truthy_bool (q b _ rfl)
theorem Fc(hr:lF d A){o:AG}{op:CmpOp}(ho:hH o=op)(hm:behindInMarks op pb=false)(ha:ES Ω A C ns sl ma pa)(hb:ES Ω A C ns sl mb pb):ES Ω A C ns sl (.cmp o ma mb) (.Compare pa [op] [pb] pos):=λF=>
 ae.wp (λh=>wpAny_Compare1 h hm) (two ha hb F λ_ _ V V'=>ho▸J1 hr V V')
theorem zF{m:HM Bool}:aL (aL m λb=>aj (aa.bool b)) dY=m:=funext λh=>by
 unfold aL
 cases m h with
 | none=>rfl
 | some p=>rfl
theorem Gj{k:aa->aa->HM Bool}{f:HM aa}{g:HM aa}:aL (aL f λx=>aL g λy=>aL (k x y) λb=>aj (aa.bool b)) dY=aL f λx=>aL g (k x):=
 bF.trans (congrArg (aL f) (funext λx=>bF.trans (congrArg (aL g) (funext λy=>zF))))
theorem BN(hr:lF d A){o:AG}{op:CmpOp}(ho:hH o=op)(hm:behindInMarks op pb=false)(ha:ES Ω A C ns sl ma pa)(hb:ES Ω A C ns sl mb pb):TS Ω A C ns sl (.cmp o ma mb) (.Compare pa [op] [pb] pos):=λF=>
 ae.MC Gj (ae.wp (λh=>wpAny_isTrue_Compare1 h hm) (two ha hb F λ_ _ V V'=>ho▸cmp_T hr V V'))
theorem BO(hr:lF d A){o o':AG}{op op':CmpOp}(ho:hH o=op)(ho':hH o'=op')(hm:lastMarks [op,op'] [pb,pc]=false)(ha:ES Ω A C ns sl ma pa)(hb:ES Ω A C ns sl mb pb)(hc:ES Ω A C ns sl mc pc):
  ES Ω A C ns sl (.BP o o' ma mb mc) (.Compare pa [op,op'] [pb,pc] pos):=λ{env _ _ _ _ _} F=>by
 subst ho ho'
 exact ae.wp (λh=>Compare_chain (ops:=[]) (rs:=[]) h hm) (one ha F λl F V=>ae.wp chain_link (one hb F λl2 F V2=>ae.bE (Aq hr (l2.V V) V2) λq c t1 l e=>(show c= .bool q from e)▸ae.tb (f:=λb=>Gb b (Wp Ω A (compareChain pos _ [hH o'] [eval pc env])) (lQ (Value.bool q))) (ae.bx (λ_=>ae.wp chain_last (one hc (F.le l) λl3 _ V3=>J1 hr (l3.V (l.V V2)) V3)) λe=>ae.here (R:=VR Ω) (e▸VR.bool q))))
theorem EA{k:HM aa}{k':HM Bool}(e:aL k dY=k'):aL (gJ b k (aj (.bool false))) dY=gJ b k' (aj false):=Ad.trans (congrArg (gJ b · _) e)
theorem yP(hr:lF d A){o o':AG}{op op':CmpOp}(ho:hH o=op)(ho':hH o'=op')(hm:lastMarks [op,op'] [pb,pc]=false)(ha:ES Ω A C ns sl ma pa)(hb:ES Ω A C ns sl mb pb)(hc:ES Ω A C ns sl mc pc):
  TS Ω A C ns sl (.BP o o' ma mb mc) (.Compare pa [op,op'] [pb,pc] pos):=λ{env _ _ _ me _} F=>by
 subst ho ho'
 refine ae.MC (m':=aL (ev Ω.P C ma me) λx=>aL (ev Ω.P C mb me) λy=>aL (lO λh=>ck h o x y) λq=>gJ q (aL (ev Ω.P C mc me) λz=>lO λh=>ck h o' y z) (aj false))
  (bF.trans (congrArg (aL _) (funext λx=>bF.trans (congrArg (aL _) (funext λy=>bF.trans (congrArg (aL _) (funext λq=>EA (bF.trans (congrArg (aL _) (funext λz=>zF))))))))))
  (ae.wp (λh=>isTrue_chain (ops:=[]) (rs:=[]) h hm) (one ha F λl F V=>ae.wp test_link (one hb F λl2 F V2=>ae.bE (Aq hr (l2.V V) V2) λq c t1 l e=>(show c= .bool q from e)▸ae.tb (f:=λb=>Gb b (Wp Ω A (testChain pos _ [hH o'] [eval pc env])) (lQ false)) (ae.bx (λ_=>ae.wp test_last (one hc (F.le l) λl3 _ V3=>cmp_T hr (l3.V (l.V V2)) V3)) λe=>ae.here rfl))))
noncomputable def notStar:Expr->Bool
 | .Starred _ _=>false
 | _=>true
variable(Ω A C ns sl)in
inductive fU:List ME->List Expr->Prop
 | nil:fU [] []
 | cons {e pe es pes}:ES Ω A C ns sl e pe->TS Ω A C ns sl e pe->notStar pe=true->fU es pes->fU (e::es) (pe::pes)
theorem fU.length{es:List ME}{pes:List Expr}(b:fU Ω A C ns sl es pes):es.length=pes.length:=fU.rec rfl (λ_ _ _ _ e=>congrArg Nat.succ e) b
theorem FN{es:List ME}{pes:List Expr}(hb:fU Ω A C ns sl es pes):ES Ω A C ns sl (.and es) (.BoolOp .And pes pos):=by
 intro env Kp hp s me t F
 show ae t (ch Ω.P C false es me) _ _
 induction hb generalizing hp s with
 | nil=>exact ae.no
 | cons h1 _ _ rest ih=>
  cases rest with
  | nil=>exact ae.wp BoolOp_one (h1 F)
  | cons h2 t2 n2 rest2=>exact ae.wp BoolOp_and (one h1 F λl F V=>ae.bE (f:=λb=>Gb b _ _) (pM V) λb c t1 l1 e=>by
    obtain rfl:c=b:=e
    cases c with
    | false=>exact ae.here (l1.V V)
    | true=>exact ih (F.le l1))
theorem G6{es:List ME}{pes:List Expr}(hb:fU Ω A C ns sl es pes):ES Ω A C ns sl (.or es) (.BoolOp .Or pes pos):=by
 intro env Kp hp s me t F
 show ae t (ch Ω.P C true es me) _ _
 induction hb generalizing hp s with
 | nil=>exact ae.no
 | cons h1 _ _ rest ih=>
  cases rest with
  | nil=>exact ae.wp BoolOp_one (h1 F)
  | cons h2 t2 n2 rest2=>exact ae.wp BoolOp_or (one h1 F λl F V=>ae.bE (f:=λb=>Gb b _ _) (pM V) λb c t1 l1 e=>by
    obtain rfl:c=b:=e
    cases c with
    | true=>exact ae.here (l1.V V)
    | false=>exact ih (F.le l1))
theorem ae.U4{stop:Bool}{e:HM aa}{k:HM aa}{w1:Tr Bool}{w2:Bool->Tr Bool}(h:ae t (aL e dY) w1 RB)(h2:∀{hp1 s1} {t1:Wl Ω Kp hp1 s1},t.le t1->ae t1 (aL k dY) (w2 (!stop)) RB)(h3:∀{hp1 s1} {t1:Wl Ω Kp hp1 s1},ae t1 (aj stop) (w2 stop) RB):
  ae t (aL (aL e λv=>aL (dY v) λb=>bif b==stop then aj v else k) dY) (w1.bind w2) RB:=λx hp' q E Q fin=>ed q λv1 h1 q1 q2=>ed q1 λv h2' q3 q4=>ed q4 λb h4 q5 q6=>by
 have q7:aL e dY hp=some (b,h4):=by unfold aL;rw [q3];exact q5
 refine h b h4 q7 E _ λc s1 t1 l1 r1=>(show c=b from r1)▸ ?_
 have same:h2'=h4:=(Jh q5).elim λa k=>(Prod.mk.inj (ay k.2)).2
 by_cases hb:b=stop
 ·rw [hb]at q5 q6 ⊢
  rw [beq_self_eq_true]at q6
  obtain ⟨rfl,rfl⟩:=Prod.mk.inj (ay (show some (v,h4)=some (v1,h1)from q6))
  rw [same]at q5
  obtain ⟨rfl,rfl⟩:=Prod.mk.inj (ay (q5.symm.trans q2))
  exact h3 stop h4 rfl E Q λu s2 t2 l2 r2=>fin u s2 t2 (l1.trans l2) r2
 ·rw [beq_eq_false_iff_ne.mpr hb]at q6
  have q6:k h4=some (v1,h1):=q6
  have q8:aL k dY h4=some (x,hp'):=by unfold aL;rw [q6];exact q2
  have hb:b= !stop:=by cases b <;> cases stop <;> first | rfl | exact absurd rfl hb
  rw [hb]
  exact h2 l1 x hp' q8 E Q λu s2 t2 l2 r2=>fin u s2 t2 (l1.trans l2) r2
theorem Ca{es:List ME}{pes:List Expr}(hb:fU Ω A C ns sl es pes):TS Ω A C ns sl (.and es) (.BoolOp .And pes pos):=by
 intro env Kp hp s me t F
 show ae t (aL (ch Ω.P C false es me) dY) (Wp Ω A (isTrue _ env _)) RB
 generalize eval (.BoolOp .And pes pos) env=whole
 induction hb generalizing hp s with
 | nil=>exact ae.no
 | cons h1 t1 _ rest ih=>
  cases rest with
  | nil=>exact ae.wp (w':=(Wt Ω A _ env).bind λb=>Gb b (Wp Ω A (isTrue (.BoolOp .And [] pos) env whole)) (lQ false)) isTrue_and ((t1 F).then λ{_ _ v b _} _ e=>by
    obtain rfl:v=b:=e
    cases v with
    | true=>exact ae.wp (w':=lQ true) isTrue_and_nil (ae.here rfl)
    | false=>exact ae.here rfl)
  | cons h2 t2 n2 rest2=>exact ae.wp (w':=(Wt Ω A _ env).bind λb=>Gb b (Wp Ω A (isTrue (.BoolOp .And _ pos) env whole)) (lQ false)) isTrue_and (ae.U4 (stop:=false) (t1 F) (λl=>ih (F.le l)) (ae.here rfl))
theorem DD{es:List ME}{pes:List Expr}(hb:fU Ω A C ns sl es pes):TS Ω A C ns sl (.or es) (.BoolOp .Or pes pos):=by
 intro env Kp hp s me t F
 show ae t (aL (ch Ω.P C true es me) dY) (Wp Ω A (isTrue _ env _)) RB
 generalize eval (.BoolOp .Or pes pos) env=whole
 induction hb generalizing hp s with
 | nil=>exact ae.no
 | cons h1 t1 _ rest ih=>
  cases rest with
  | nil=>exact ae.wp (w':=(Wt Ω A _ env).bind λb=>Gb b (lQ true) (Wp Ω A (isTrue (.BoolOp .Or [] pos) env whole))) isTrue_or ((t1 F).then λ{_ _ v b _} _ e=>by
    obtain rfl:v=b:=e
    cases v with
    | true=>exact ae.here rfl
    | false=>exact ae.wp (w':=lQ false) isTrue_or_nil (ae.here rfl))
  | cons h2 t2 n2 rest2=>exact ae.wp (w':=(Wt Ω A _ env).bind λb=>Gb b (lQ true) (Wp Ω A (isTrue (.BoolOp .Or _ pos) env whole))) isTrue_or (ae.U4 (stop:=true) (t1 F) (λl=>ih (F.le l)) (ae.here rfl))
end
noncomputable def aZ:Expr->Bool
 | .Call _ _ _ _=>false
 | _=>true
noncomputable def iT:Expr->Bool
 | .Slice _ _ _ _=>false
 | _=>true
noncomputable def Facts.and(P:Facts)(h:Heap)(as:List Addr):Facts:=λb o=>P b o\/(b∈as/\h.get? b=some o)
theorem Facts.bQ{P:Facts}{h:Heap}{as:List Addr}:Le P (P.and h as):=λ_ _ e=>.inl e
section
variable{Ω:Cx}{Φ Φ' Kp Kp':Facts}{σ σ':Sg}{hp hp':Hp}{h h':Heap}{s s':Shared}{A:Around}{v u:Value}{x y z:aa}{α β γ δ:Type}{t:Wl Ω Kp hp s}{w w1 w2:Tr β}{R:Rl β α}{R':Rl δ γ}{b c:Bool}{a:Addr}{m n:HM α}
variable{C:jj}{ns:bc}{sl:Slots}{env:PySem.Env}{me:Mn.Env}{pa pb pc:Expr}{ma mb mc:ME}{pos:Pos}{d:Nat}
theorem St.plus(S:St Ω Φ Kp σ hp h)(as:List Addr)(h1:∀b∈as,¬Φ.has b)(h2:∀b∈as,∀l ob,hp.get l=some ob->σ l≠some b):St Ω Φ (Kp.and h as) σ hp h:=
 {S with
  kp:=λb o e=>e.elim (S.kp b o) (·.2)
  sep:=λb f k=>k.elim λo e=>e.elim (λe=>S.sep b f ⟨o,e⟩) λe=>h1 b e.1 f
  apart:=λl ob a e ea=>⟨(S.apart l ob a e ea).1,λk=>k.elim λo q=>q.elim (λq=>(S.apart l ob a e ea).2 ⟨o,q⟩) λq=>h2 a q.1 l ob e ea⟩}
theorem St.weak(S:St Ω Φ Kp σ hp h)(k:Le Kp' Kp):St Ω Φ Kp' σ hp h:=
 {S with
  kp:=λb o e=>S.kp b o (k b o e)
  sep:=λb f q=>q.elim λo e=>S.sep b f ⟨o,k b o e⟩
  apart:=λl ob a e ea=>⟨(S.apart l ob a e ea).1,λq=>q.elim λo q=>(S.apart l ob a e ea).2 ⟨o,k _ _ q⟩⟩}
theorem St.uP(S:St Ω Φ Kp σ hp h){a:Addr}(e:Kp.has a):¬Φ.has a/\∀l ob,hp.get l=some ob->σ l≠some a:=⟨λf=>S.sep a f e,λl ob el ea=>(S.apart l ob a el ea).2 e⟩
noncomputable def Wl.plus(t:Wl Ω Kp hp s)(as:List Addr)(h:∀b∈as,Un t.Φ Kp t.σ hp b):Wl Ω (Kp.and s.heap as) hp s:=⟨t.Φ,t.σ,t.B,t.g,t.S.plus as (λb hb=>(h b hb).1) λb hb=>(h b hb).2.2⟩
noncomputable def Wl.weak(t:Wl Ω Kp hp s)(k:Le Kp' Kp):Wl Ω Kp' hp s:=⟨t.Φ,t.σ,t.B,t.g,t.S.weak k⟩
theorem ae.keep{as:List Addr}{N:∀b∈as,Un t.Φ Kp t.σ hp b}{k:α->HM γ}{f:β->Tr δ}(h:ae (t.plus as N) m w R)
  (g:∀{hp1 s1 v x} (t1:Wl Ω (Kp.and s.heap as) hp1 s1),t.le (t1.weak Facts.bQ)->R t1.Φ t1.σ v x->ae (t1.weak Facts.bQ) (k x) (f v) R'):ae t (aL m k) (w.bind f) R':=
 λx hp' e E Q q=>ed e λa h1 e1 e2=>h a h1 e1 E _ λv s1 t1 l1 r1=>g t1 ⟨l1.d,l1.l,l1.r⟩ r1 x hp' e2 E Q λu s2 t2 l2 r2=>q u s2 t2 (Wl.le.trans (t':=t1.weak Facts.bQ) ⟨l1.d,l1.l,l1.r⟩ l2) r2
theorem mP{o:Expr}{attr:PySem.Str}{whole:Sem Value}(e:aZ o=true):attributeBase o attr env whole=whole:=by
 unfold attributeBase
 cases o <;> first | rfl | cases e
theorem B7(X:eW Ω){n:Sx}{id:PySem.Str}(hn:sEq id (toS n)=true)(oU:aZ pa=true)(ha:ES Ω A C ns sl ma pa):ES Ω A C ns sl (.attr ma n) (.Attribute pa id pos):=λ{env _ _ _ _ _} F=>
 ae.wp (w':=(Wp Ω A (eval pa env)).bind λv=>Wp Ω A (getAttr v (toS n) true)) (λh=>by
  rw [iF hn,arm_eval_Attribute,mP oU]
  exact wpAny_bind (wpAny_mono h (λv s1 h=>wpAny_bind (wpAny_standAt (wpAny_bind (wpAny_holding (wpAny_mono h (λu s2 h=>wpAny_bind (wpAny_letTemporaryGo (wpAny_pure h))) λ_ _ h=>h))))) λ_ _ h=>h)) (one ha F λ_ _ V=>ae.rd λz e=>Ng X V e)
theorem AQ{s':Expr}(e:iT s'=true)(v u:Value):subscripted s' false v u=operate [v,u] (getItem v u):=by cases s' <;> first | rfl | cases e
theorem Bv(hs:iT pb=true)(ha:ES Ω A C ns sl ma pa)(hb:ES Ω A C ns sl mb pb):ES Ω A C ns sl (.item ma mb) (.Subscript pa pb pos):=λF=>ae.wp Subscript_ (two ha hb F λ_ _ V V'=>ae.rd λz e=>L9 V V' (AQ hs _ _) e)
variable(Ω A C ns sl)in
noncomputable def Part(o:Option ME)(po:Option Expr):Prop:=∀{env Kp hp s me} {t:Wl Ω Kp hp s},Fr t env ns sl me->ae t (Qy Ω.P C o me) (Wp Ω A (evalPart po env)) (VR Ω)
theorem Part.none:Part Ω A C ns sl none none:=λF=>ae.val λq=>wpAny_pure (q _ _ .none)
theorem Part.some(h:ES Ω A C ns sl ma pa):Part Ω A C ns sl (some ma) (some pa):=h
theorem part{o:Option ME}{po:Option Expr}{k:aa->HM γ}{f:Value->Tr δ}(ha:Part Ω A C ns sl o po)(F:Fr t env ns sl me)
  (h:∀{hp1 s1} {x v} {t1:Wl Ω Kp hp1 s1},t.le t1->Fr t1 env ns sl me->t1.V v x->ae t1 (k x) (f v) R'):ae t (aL (Qy Ω.P C o me) k) ((Wp Ω A (evalPart po env)).bind f) R':=
 ae.bE (ha F) λx v t1 l V=>h l (F.le l) V
theorem xS{lo hi:Option ME}{pl pu:Option Expr}{p:Pos}(ha:ES Ω A C ns sl ma pa)(hl:Part Ω A C ns sl lo pl)(hu:Part Ω A C ns sl hi pu):ES Ω A C ns sl (.slice ma lo hi) (.Subscript pa (.Slice pl pu none p) pos):=λF=>
 ae.wp (λh=>Subscript_ (wpAny_mono h (λv s1 h=>wpAny_Slice (wpAny_mono h (λl s2 h=>wpAny_mono h (λu s3 h=>wpAny_pure h) λ_ _ h=>h) λ_ _ h=>h)) λ_ _ h=>h))
  (one ha F λl0 F V=>part hl F λl1 F V1=>part hu F λl2 F V2=>ae.rd λz e=>GJ (l2.V (l1.V V)) (l2.V V1) V2 (λi=>rfl) e)
theorem eO(n:notStar pa=true)(r:List Expr):backTo pos (starEach (pa::r) env)=(false,eval pa env)::backTo pos (starEach r env):=by cases pa <;> first | rfl | cases n
theorem zw{es:List ME}{pes:List Expr}(hb:fU Ω A C ns sl es pes):backTo pos (starEach pes env)=(evalEach pes env).map λt=>(false,t):=fU.rec rfl (λ_ _ n _ ih=>(eO n _).trans (congrArg _ ih)) hb
noncomputable abbrev T5(Ω:Cx)(n:Nat):Rl (List Value) (List aa):=λΦ σ vs xs=>fT Ω Φ σ vs xs/\vs.length=n
theorem Sq{es:List ME}{pes:List Expr}(hb:fU Ω A C ns sl es pes):∀{env Kp hp s me} {t:Wl Ω Kp hp s},Fr t env ns sl me->ae t (xu Ω.P C es me) (Wp Ω A (spliced (backTo pos (starEach pes env)))) (T5 Ω pes.length):=
 fU.rec (motive:=λes pes _=>∀{env Kp hp s me} {t:Wl Ω Kp hp s},Fr t env ns sl me->ae t (xu Ω.P C es me) (Wp Ω A (spliced (backTo pos (starEach pes env)))) (T5 Ω pes.length)) (λF=>ae.val λq=>PySem.Calls.spliced_nil (q _ _ ⟨.nil,rfl⟩))
  (λ{e pe es pes} he _ n _ ih env Kp hp s me t F=>by
   rw [eO n]
   exact ae.wp PySem.Calls.spliced_cons (one he F λl F V=>ae.bE (f:=λvs=>lQ (_::vs)) (ih F) λxs vs t1 l1 W=>ae.here ⟨.cons (l1.V V) W.1,congrArg Nat.succ W.2⟩)) hb
theorem JV{n:Nat}(h:n < 1000):n<=sizeLine:=by rw [sizeLine_eq];exact ai (Nat.le_of_lt h) (by decide)
theorem CC{es:List ME}{pes:List Expr}{k:Nat}(hb:fU Ω A C ns sl es pes)(hl:pes.length < 1000):ES Ω A C ns sl (.tup es) (.Tuple pes k pos):=λF=>
 ae.wp (λh=>by rw [arm_eval_Tuple];exact wpAny_bind (wpAny_standAt (wpAny_bind h))) (ae.bE (f:=λvs=>Wp Ω A (newTuple vs)) (Sq hb F) λxs vs t1 l W=>ae.Hd (vs:=vs.toArray) (n:=0) W.1 λq=>wpAny_newTuple (q _) (by rw [W.2];exact JV hl))
theorem Bi{m:Mode}{es:List ME}{pes:List Expr}(hb:fU Ω A C ns sl es pes)(hl:pes.length < 1000):ES Ω A C ns sl (.list m es) (.List pes pos):=λF=>
 ae.wp (λh=>by rw [arm_eval_List];exact wpAny_bind (wpAny_standAt (wpAny_bind h))) (ae.bE (f:=λvs=>Wp Ω A (newList vs)) (Sq hb F) λxs vs t1 l W=>ae.He (vs:=vs.toArray) (n:=0) W.1 λq=>wpAny_newList (q _) (by rw [W.2];exact JV hl))
theorem tR{K':Type} [DecidableEq K']{kvs:List (K'×Value)}(k:K')(v:Value):(kvs.map (·.1)).Nodup->((stored kvs k v).map (·.1)).Nodup/\∀j,j∈(stored kvs k v).map (·.1)->j=k\/j∈kvs.map (·.1):=
 List.rec (motive:=λkvs:List (K'×Value)=>(kvs.map (·.1)).Nodup->((stored kvs k v).map (·.1)).Nodup/\∀j,j∈(stored kvs k v).map (·.1)->j=k\/j∈kvs.map (·.1)) (λ_=>⟨List.nodup_cons.mpr ⟨List.not_mem_nil,.nil⟩,λj h=>(List.mem_cons.mp h).imp_right id⟩) (λp r ih nd=>by
  obtain ⟨n1,n2⟩:=ih (ue nd)
  rw [o9 (k:=p.1) (v:=p.2) nd]
  by_cases c:p.1=k
  ·rw [if_pos c];exact ⟨nd,λj h=>.inr h⟩
  ·rw [if_neg c]
   exact ⟨List.nodup_cons.mpr ⟨λh=>(n2 _ h).elim c (List.nodup_cons.mp nd).1,n1⟩,λj h=>(List.mem_cons.mp h).elim (λq=>.inr (List.mem_cons.mpr (.inl q))) λq=>(n2 j q).imp_right (bB _)⟩) kvs
theorem bG.merged{κ κ':Type} [DecidableEq κ] [DecidableEq κ']{R:Value->aa->Prop}{f:κ->κ'}(inj:∀{a b},f a=f b->a=b){vs:List (κ'×Value)}{xs:List (κ×aa)}(h:bG R f vs xs):∀{acc axs},bG R f acc axs->(acc.map (·.1)).Nodup->bG R f (PySem.merged acc vs) (xs.foldl (λd p=>i5 d p.1 p.2) axs):=
 bG.rec (motive:=λvs xs _=>∀{acc axs},bG R f acc axs->(acc.map (·.1)).Nodup->bG R f (PySem.merged acc vs) (xs.foldl (λ(d:List (κ×aa)) (p:κ×aa)=>i5 d p.1 p.2) axs)) (λr _=>r) (λ{k v x vs xs} a _ ih acc axs r nd=>ih (r.set inj k a nd) (tR _ _ nd).1) h
section
variable{κ K':Type} [DecidableEq κ] [DecidableEq K'](knd:KeyKind Ω.prog Ω.w K')(f:κ->K')
noncomputable def KO(ok:Option Expr)(k:κ):Prop:=∃pk,ok=some pk/\∀{A env s} {E Q:Value->Shared->Prop},(∀key tk,knd.is (f k) key=true->Q key {s with toks:=tk})->wpAny (model Ω.prog Ω.w) A (eval pk env) Q E s
noncomputable abbrev RP(ks:List κ):Rl (List (Value×Value)) (List aa):=λΦ σ ps xs=>∃kvs,Carries knd ps kvs/\bG (VR Ω Φ σ) f kvs (ks.zip xs)
theorem pairs{es:List ME}{pes:List Expr}(hb:fU Ω A C ns sl es pes):∀{keys:List (Option Expr)} {ks:List κ} (hk:bD (KO knd f) keys ks) (hl:keys.length=pes.length) {env Kp hp s me} {t:Wl Ω Kp hp s},Fr t env ns sl me->ae t (xu Ω.P C es me) (Wp Ω A (evalPairs (pairTrees keys pes env pos))) (RP knd f ks):=by
 induction hb with
 | nil=>
  intro keys ks hk hl env Kp hp s me t F
  cases hk with
  | cons _ _=>cases hl
  | nil=>exact ae.val λq=>evalPairs_nil (q _ _ ⟨[],trivial,.nil⟩)
 | cons he _ n _ ih=>
  intro keys ks hk hl env Kp hp s me t F
  cases hk with
  | nil=>cases hl
  | cons hk hks=>
   obtain ⟨pk,rfl,hk⟩:=hk
   refine λx hp' e E Q q=>evalPairs_cons (hk λkey tk hkey=>?_)
   rename_i pe _ pes _ _ k0 keys ks
   have K:ae (t.tk tk) (xu Ω.P C (_::_) me) ((Wp Ω A (eval pe env)).bind λv=>(Wp Ω A (evalPairs (pairTrees keys pes env pos))).bind λps=>lQ ((key,v)::ps)) (RP knd f (k0::ks)):=
    one he (F.le Wl.D7) λ{_ _ _ v _} l F V=>ae.bE (f:=λps=>lQ ((key,v)::ps)) (ih hks (Nat.succ.inj hl) F) λxs ps t1 l1 W=>ae.here (W.elim λkvs k=>⟨(f k0,v)::kvs,(⟨hkey,rfl,k.1⟩:knd.is (f k0) key=true/\v=v/\Carries knd ps kvs),.cons (l1.V V) k.2⟩)
   exact wpAny_bind (wpAny_mono (K x hp' e E Q λv s' t' l r=>q v s' t' (Wl.D7.trans l) r) (λv s1 h=>wpAny_bind (wpAny_standAt (wpAny_pure h))) λ_ _ h=>h)
theorem tj(inj:∀{a b},f a=f b->a=b){ob:List (κ×aa)->ak}(hob:∀{Φ σ} {h:Heap} {a kvs' kvs},a≠sysModules->h.DictOf knd a kvs'->bG (VR Ω Φ σ) f kvs' kvs->OR Ω Φ σ h a (ob kvs)){m:Mode}{keys:List (Option Expr)}{ks:List κ}{es:List ME}{pes:List Expr}
  (hk:bD (KO knd f) keys ks) (hb:fU Ω A C ns sl es pes) (hl:keys.length=pes.length) (h15:pes.length<=15) (F:Fr t env ns sl me):
  ae t (aL (xu Ω.P C es me) λxs=>gd (Nat.beq ks.length xs.length) (ju m (ob ((ks.zip xs).foldl (λd p=>i5 d p.1 p.2) [])))) (Wp Ω A (eval (.Dict keys pes pos) env)) (VR Ω):=by
 have ns:s.heap.objs.size≠sysModules:=λq=>t.B.sys.elim λa k=>k.elim λo k=>Nat.lt_asymm k.1 (q▸Heap.lt_size (t.old _ _ k.2))
 cases hb with
 | nil=>
  cases hk with
  | cons _ _=>cases hl
  | nil=>exact ae.gd λ_=>ae.wp wpAny_Dict_empty (ae.new (w:=λE Q s=>Q (.ref s.heap.objs.size) {s with heap:=s.heap.push {cls:=.type "dict",data:=.dict #[]}}) (hob ns (Heap.DictOf.new s.heap) .nil) λq=>q s.toks)
 | cons a1 a2 a3 a4=>
  have hall:keys.all (·.isSome)=true:=bD.rec (motive:=λkeys _ _=>keys.all (λo:Option Expr=>o.isSome)=true) rfl (λa _ b=>Bool.and_eq_true_iff.mpr ⟨a.elim λ_ k=>k.1▸rfl,b⟩) hk
  refine ae.wp (λh=>wpAny_Dict_walk (knd:=knd) hall hl (λq=>by rw [q]at hl;cases hl) (hl▸h15) h) (ae.push (t:=t) (o:={cls:=.type "dict",data:=.dict #[]}) (w:=λE Q s1=>wpAny (model Ω.prog Ω.w) A (evalPairs (pairTrees keys _ env pos)) (λvs s₁=>∃kvs,Carries knd vs kvs/\s₁.heap.DictOf knd s.heap.objs.size []/\
   ∀h',h'.DictOf knd s.heap.objs.size (PySem.merged [] kvs)->Heap.SameBut s.heap.objs.size s₁.heap h'->Q (.ref s.heap.objs.size) {s₁ with heap:=h',toks:=s₁.toks + vs.length}) E s1) ?_)
  refine ae.keep (t:=t.push {cls:=.type "dict",data:=.dict #[]}) (k:=λxs=>gd (Nat.beq ks.length xs.length) (ju m (ob ((ks.zip xs).foldl (λd p=>i5 d p.1 p.2) [])))) (as:=[s.heap.objs.size]) (N:=λb hb=>List.mem_singleton.mp hb▸t.new) (R':=VR Ω) (f:=λvs E (Q:Value->Shared->Prop) s₁=>∃kvs,Carries knd vs kvs/\s₁.heap.DictOf knd s.heap.objs.size []/\∀h',h'.DictOf knd s.heap.objs.size (PySem.merged [] kvs)->Heap.SameBut s.heap.objs.size s₁.heap h'->Q (.ref s.heap.objs.size) {s₁ with heap:=h',toks:=s₁.toks + vs.length})
   (pairs knd f (.cons a1 a2 a3 a4) hk hl ⟨F.en,(F.R).keep Facts.bQ⟩) λ{hp1 s1 ps xs} t1 l1 r=>ae.gd λ_=>λz hp' e E Q q=>?_
  obtain ⟨kvs,cr,W⟩:=r
  have kept:(Kp.and (s.heap.push {cls:=.type "dict",data:=.dict #[]}) [s.heap.objs.size]) s.heap.objs.size {cls:=.type "dict",data:=.dict #[]}:=.inr ⟨jN _,Heap.get?_push_size _ rfl⟩
  have fr:=t1.S.uP ⟨_,kept⟩
  refine ⟨kvs,cr,?_,λh' m1 m2=>?_⟩
  ·obtain ⟨o,es,ep,e5,rest⟩:=Heap.DictOf.new (knd:=knd) s.heap
   rw [Heap.get?_push_size _ rfl]at e5
   exact ⟨_,es,ep,t1.S.kp _ _ kept,ay e5▸rest⟩
  ·obtain ⟨Φ',σ',l2,r2,S',V'⟩:=St.make ((t1.S.weak Facts.bQ).extBut m2.extBut fr.1 t.new.2.1 fr.2) ⟨fr.1,t.new.2.1,fr.2⟩ (hob ns m1 (W.merged inj .nil .nil)) e
   exact q _ _ ⟨Φ',σ',t.B,t1.g.trans l2,S'⟩ ⟨⟨h',_,rfl⟩,l2,r2⟩ V'
end
noncomputable def Te(ok:Option Expr)(k:Sx):Ck (KO (strKind Ω.prog Ω.w) toS ok k):=match ok with
 | some (.Constant (.str y) _ _)=>.aH (sEq y (toS k)) λe=>.y ⟨_,rfl,λq=>PySem.Calls.Constant_str (q _ _ (iF e▸strKind_is ..))⟩
 | _=>.n
noncomputable def Tg(ok:Option Expr)(k:Int):Ck (KO (intKind Ω.prog Ω.w) id ok k):=match ok with
 | some (.Constant (.int y) _ _)=>.aH (y==k) λe=>.y ⟨_,rfl,λq=>wpAny_Constant_int (q _ _ (beq_iff_eq.mp e▸intKind_is ..))⟩
 | _=>.n
theorem yK{m:Mode}{ks:List Sx}{keys:List (Option Expr)}{es:List ME}{pes:List Expr}(hk:bD (KO (strKind Ω.prog Ω.w) toS) keys ks)(hb:fU Ω A C ns sl es pes)(hl:keys.length=pes.length)(h15:pes.length<=15):
  ES Ω A C ns sl (.fN m ks es) (.Dict keys pes pos):=tj _ _ fm (λh1 h2 h3=>.sd ⟨h1,h2⟩ h3) hk hb hl h15
theorem yN{m:Mode}{ks:List Int}{keys:List (Option Expr)}{es:List ME}{pes:List Expr}(hk:bD (KO (intKind Ω.prog Ω.w) id) keys ks)(hb:fU Ω A C ns sl es pes)(hl:keys.length=pes.length)(h15:pes.length<=15):
  ES Ω A C ns sl (.lX m ks es) (.Dict keys pes pos):=tj _ _ id (λh1 h2 h3=>.eg ⟨h1,h2⟩ h3) hk hb hl h15
end
section
variable{Ω:Cx}{Φ Φ' Kp Kp':Facts}{σ σ':Sg}{hp hp':Hp}{h h':Heap}{s s':Shared}{A:Around}{v u:Value}{x y z:aa}{α β γ δ:Type}{t:Wl Ω Kp hp s}{w w1 w2:Tr β}{R:Rl β α}{R':Rl δ γ}{b c:Bool}{a:Addr}{m n:HM α}
variable{C:jj}{ns:bc}{sl:Slots}{env:PySem.Env}{me:Mn.Env}{pa pb pc:Expr}{ma mb mc:ME}{pos:Pos}{d:Nat}{E:Value->Shared->Prop}{Q:Value->Shared->Prop}
noncomputable abbrev Wa(Ω:Cx)(A:Around)(f:Value)(pos:Pos)(pes:List Expr)(env:PySem.Env):Tr (List Value):=λE Q s=>wpAny (model Ω.prog Ω.w) A (evalArgs f true (backTo pos (starEach pes env)) []) (λa s1=>Q a.pos s1/\a.kw=[]) E s
theorem Nq{f:Value}{es:List ME}{pes:List Expr}(hb:fU Ω A C ns sl es pes)(F:Fr t env ns sl me):ae t (xu Ω.P C es me) (Wa Ω A f pos pes env) (T5 Ω pes.length):=by
 cases hb with
 | nil=>exact ae.val λq=>evalArgs_nil3 ⟨q _ _ ⟨.nil,rfl⟩,rfl⟩
 | cons a1 a2 a3 a4=>
  exact ae.wp (w':=Wp Ω A (spliced (backTo pos (starEach _ env)))) (λ{E Q} h=>by
   have h:wpAny (model Ω.prog Ω.w) A (spliced (backTo pos (starEach (_::_) env))) Q E s:=h
   rw [eO a3]at h
   show wpAny (model Ω.prog Ω.w) A (evalArgs f true (backTo pos (starEach (_::_) env)) []) _ E s
   rw [eO a3]
   exact PySem.Calls.evalArgs_plain (wpAny_mono h (λvs s1 h=>⟨h,rfl⟩) λ_ _ h=>h)) (Sq (.cons a1 a2 a3 a4) F)
theorem fT.up{vs:List Value}{xs:List aa}(W:fT Ω Φ σ vs xs)(l:Le Φ Φ')(r:ow σ σ'):fT Ω Φ' σ' vs xs:=bD.rec (motive:=λvs xs _=>fT Ω Φ' σ' vs xs) .nil (λa _ b=>.cons (a.mono l r) b) W
theorem ya{es:List ME}{pes:List Expr}(hb:fU Ω A C ns sl es pes):(backTo pos (starEach pes env)).any (·.1)=false:=by rw [zw hb,List.any_map];exact List.any_eq_false.mpr λ_ _ h=>nomatch h
theorem ae.lG(h:ae t m w R):ae t m (λE Q s=>Ω.K.In s.heap/\w E Q s) R:=λx hp' e E Q q=>⟨t.lG,h x hp' e E Q q⟩
theorem Fm{f:Value}{first:List Value}{es:List ME}{pes:List Expr}{k:List aa->HM aa}(hk:keepIn Ω.K f=true)(hb:fU Ω A C ns sl es pes)(F:Fr t env ns sl me)
  (h:∀{hp1 s1 xs vs} {t1:Wl Ω Kp hp1 s1},t.le t1->fT Ω t1.Φ t1.σ vs xs->ae t1 (k xs) (Wp Ω A (call f (first++vs) [])) (VR Ω)):ae t (aL (xu Ω.P C es me) k) (Wp Ω A (callWith pos f first (backTo pos (starEach pes env)) [])) (VR Ω):=
 ae.wp (w':=(Wa Ω A f pos pes env).bind λvs=>λE Q s=>Ω.K.In s.heap/\wpAny (model Ω.prog Ω.w) A (call f (first++vs) []) Q E s)
  (λh=>callWith_of (P:=Ω.K.In) (by rw [ya hb];rfl) (keeps_K hk) (wpAny_mono h (λa s1 h=>h.2▸h.1) λ_ _ h=>h)) (ae.bE (Nq hb F) λxs vs t1 l W=>ae.lG (h l W.1))
theorem Ar(hr:Rm d A)(hC:fc Ω C d){f:Nat}{xs:List aa}{vs:List Value}(W:fT Ω t.Φ t.σ vs xs):ae t (C f xs) (Wp Ω A (call (.ref (Ω.fA f)) vs [])) (VR Ω):=ae.wp (λh=>wpAny_call (h _ λ_ _ q=>q)) (hC hr t W)
theorem BS(hr:lF d A)(hC:fc Ω C d){f:Nat}{id:PySem.Str}{p:Pos}{es:List ME}{pes:List Expr}(hg:NA Ω ns id (Ω.fA f))(hb:fU Ω A C ns sl es pes):ES Ω A C ns sl (.call f es) (.Call (.Name id p) pes [] pos):=λF=>
 ae.wp (λh=>Call_Name rfl (oX F hg.ok hg.is h)) (Fm (first:=[]) hg.keep hb F λ_ W=>Ar hr.rm hC W)
theorem lF.made(hr:lF d A){C:Addr}{rest:List Value}:Rm d (A.under (.builtin "type.__call__" ⟨.ref C::rest,[]⟩)):=by
 have hw:(Code.builtin "type.__call__" ⟨.ref C::rest,[]⟩).weight=1:=by kernel_rfl
 have hu:(Code.builtin "type.__call__" ⟨.ref C::rest,[]⟩).cUnits=1:=by kernel_rfl
 refine ⟨hr.1,?_,?_⟩
 ·show A.depth + _ + 2 * d + 2<=_
  rw [hw];have:=hr.2.1;omega
 ·show A.units + _ + 64 + 16 * d < _
  rw [hu];have:=hr.2.2;omega
theorem G7{x:aa}{f:HM α}{P:Prop}{h:Hp}{r:α×Hp}(e:x.vp f no h=some r)(p:x= .none->f h=some r->P):P:=by
 cases x <;> first | exact aA e | exact p rfl e
theorem Pr(X:eW Ω)(hr:lF d A)(hC:fc Ω C d){c fi:Nat}(e2:Ω.P.init c=some fi){xs:List aa}{vs:List Value}(W:fT Ω t.Φ t.σ vs xs):ae t (SQ C c fi xs) (Wp Ω A (call (.ref (Ω.cA c)) vs [])) (VR Ω):=λz hp' e E Q q=>by
 have Y:=(X c).2.1 fi e2
 refine ed e λr h1 e3 e4=>G7 e4 λer e4=>?_
 obtain ⟨t2,l2,V2⟩:=DQ t c s.toks
 refine wpAny_call (make_core (makes_of t.lG Y.makes) (looks_findIn t.lG Y.init) (λself=>bind_fn t.lG self Y.fn) (.inl rfl) ?_)
 refine hC hr.made t2 (.cons V2 (W.up l2.l l2.r)) r h1 e3 E (λv s'=>v= .none/\Q (.ref (s.heap.objs.size + 1)) s') (λv s' t' l r=>?_) _ λv s' k=>k
 exact jP (P:=λz hp'=>(∀v s' (t':Wl Ω Kp hp' s'),t.le t'->VR Ω t'.Φ t'.σ v z->Q v s')->_) e4 (λq=>⟨VR.nu r er (P:=λv=>v= .none) rfl,q _ _ t' (l2.trans l) (l.V V2)⟩) q
theorem DR(X:eW Ω)(hr:lF d A)(hC:fc Ω C d){c:Nat}{id:PySem.Str}{p:Pos}{es:List ME}{pes:List Expr}(hg:NA Ω ns id (Ω.cA c))(hb:fU Ω A C ns sl es pes):ES Ω A C ns sl (.new c es) (.Call (.Name id p) pes [] pos):=λF=>
 ae.wp (λh=>Call_Name rfl (oX F hg.ok hg.is h)) (Fm (first:=[]) hg.keep hb F λ_ W=>ae.op λfi e2=>Pr X hr hC e2 W)
theorem Bb(X:eW Ω){n:Sx}{f:Nat}(e:zS Ω.P x n=some f):keepIn Ω.K (.ref (Ω.fA f))=true:=ua e (λc fs ex e=>by
 cases k:bZ fs n with
 | some _=>rw [k]at e;cases e
 | none=>rw [k]at e;exact ((X c).2.2 n f e).2.2.2) aA
theorem Bc(X:eW Ω)(hr:lF d A)(hC:fc Ω C d){n:Sx}{id:PySem.Str}{apos:Pos}{es:List ME}{pes:List Expr}(hn:sEq id (toS n)=true)(oU:aZ pa=true)(hline:Nat.beq apos.endLine pos.line=true)(hlen:pes.length < 30)
  (ha:ES Ω A C ns sl ma pa) (hb:fU Ω A C ns sl es pes):ES Ω A C ns sl (.mB ma n es) (.Call (.Attribute pa id apos) pes [] pos):=λ{env _ _ _ _ _} F=>
 ae.wp (w':=(Wp Ω A (eval pa env)).bind λv=>Wp Ω A (methodCall pa (toS n) apos pos env v (pes.length + ([]:List Keyword).length) (backTo pos (starEach pes env)) (backToKw pos (keywordEach [] env)))) (λh=>by
  rw [iF hn,arm_eval_Call,mP oU]
  exact wpAny_bind (wpAny_mono h (λv s1 h=>wpAny_bind (wpAny_standAt h)) λ_ _ h=>h))
 (one ha F λ{_ _ x v t1} l F V=>ae.op λf e2=>ae.wp (w':=Wp Ω A (callWith pos (.ref (Ω.fA f)) [v] (backTo pos (starEach pes env)) [])) (λh=>by
   have hform:methodCallForm (pes.length + ([]:List Keyword).length) (backTo pos (starEach pes env)) (backToKw pos (keywordEach [] env))=true:=by
    unfold methodCallForm
    rw [zw hb,List.all_map]
    exact Bool.and_eq_true_iff.mpr ⟨Bool.and_eq_true_iff.mpr ⟨List.all_eq_true.mpr λ_ _=>rfl,rfl⟩,decide_eq_true hlen⟩
   have hpos:methodCallPos true pa env apos pos=pure pos:=by unfold methodCallPos;rw [jM hline,beq_self_eq_true];rfl
   unfold methodCall
   rw [hform]
   exact wpAny_bind (wpAny_holding (LC X t1 V e2 (wpAny_bind (wpAny_of_eq hpos h))))) (Fm (Bb X e2) hb F λl1 W=>Ar hr.rm hC (.cons (l1.V V) W)))
end
theorem Nb:bootBuiltins "len"=some (.builtin "len"):=by kernel_rfl
theorem Nc:bootBuiltins "any"=some (.builtin "any"):=by kernel_rfl
theorem Nd:bootBuiltins "all"=some (.builtin "all"):=by kernel_rfl
theorem BZ:bootBuiltins "sorted"=some (.builtin "sorted"):=by kernel_rfl
theorem Ft:bootBuiltins "max"=some (.builtin "max"):=by kernel_rfl
theorem Na:bootBuiltins "str"=some (.type "str"):=by kernel_rfl
theorem w4:bootBuiltins "range"=some (.type "range"):=by kernel_rfl
theorem w3:bootBuiltins "reversed"=some (.type "reversed"):=by kernel_rfl
noncomputable def Fy:B1->PySem.Str
 | .len=>"len" | .any=>"any" | .all=>"all" | .sorted=>"sorted" | .max=>"max" | .str=>"str"
section
variable{Ω:Cx}{Φ Φ' Kp Kp':Facts}{σ σ':Sg}{hp hp':Hp}{h h':Heap}{s s':Shared}{A:Around}{v u:Value}{x y z:aa}{α β γ δ:Type}{t:Wl Ω Kp hp s}{w w1 w2:Tr β}{R:Rl β α}{R':Rl δ γ}{b c:Bool}{a:Addr}{m n:HM α}
variable{C:jj}{ns:bc}{sl:Slots}{env:PySem.Env}{me:Mn.Env}{pa pb pc:Expr}{ma mb mc:ME}{pos:Pos}{d:Nat}{E:Value->Shared->Prop}{Q:Value->Shared->Prop}
theorem tB{f:Value}(n:notStar pa=true){Q:Args->Shared->Prop}(h:wpAny (model Ω.prog Ω.w) A (eval pa env) (λv=>Q ⟨[v],[]⟩) E s):wpAny (model Ω.prog Ω.w) A (evalArgs f true (backTo pos (starEach [pa] env)) []) Q E s:=by
 rw [eO n]
 exact PySem.Calls.evalArgs_plain (PySem.Calls.spliced_cons (wpAny_mono h (λv s1 h=>PySem.Calls.spliced_nil h) λ_ _ h=>h))
theorem AA{f:Value}(n:notStar pa=true)(n':notStar pb=true){Q:Args->Shared->Prop}(h:wpAny (model Ω.prog Ω.w) A (eval pa env) (λv=>wpAny (model Ω.prog Ω.w) A (eval pb env) (λu=>Q ⟨[v,u],[]⟩) E) E s):wpAny (model Ω.prog Ω.w) A (evalArgs f true (backTo pos (starEach [pa,pb] env)) []) Q E s:=by
 rw [eO n,eO n']
 exact PySem.Calls.evalArgs_plain (PySem.Calls.spliced_cons (wpAny_mono h (λv s1 h=>PySem.Calls.spliced_cons (wpAny_mono h (λv s1 h=>PySem.Calls.spliced_nil h) λ_ _ h=>h)) λ_ _ h=>h))
theorem plain1(n:notStar pa=true):(backTo pos (starEach [pa] env)).any (·.1)=false:=by rw [eO n];rfl
theorem plain2(n:notStar pa=true)(n':notStar pb=true):(backTo pos (starEach [pa,pb] env)).any (·.1)=false:=by rw [eO n,eO n'];rfl
theorem oj{k:aa->HM aa}{id:PySem.Str}{p:Pos}{x0:PySem.Str}{i:String}(hg:Built Ω ns id x0)(hx:x0≠"__name__")(hv:bootBuiltins x0=some (.builtin i))(n:notStar pa=true)(ha:ES Ω A C ns sl ma pa)(F:Fr t env ns sl me)
  (h:∀{hp1 s1 x v} {t1:Wl Ω Kp hp1 s1},t1.V v x->ae t1 (k x) (Wp Ω A (call (.builtin i) [v])) (VR Ω)):ae t (aL (ev Ω.P C ma me) k) (Wp Ω A (eval (.Call (.Name id p) [pa] [] pos) env)) (VR Ω):=
 ae.wp (λh=>Call_Name rfl (hU F hg hx hv (PySem.Calls.callWith_builtin (plain1 n) (tB n h)))) (one ha F λ_ _ V=>h V)
theorem zt{k:aa->HM aa}{id:PySem.Str}{p:Pos}{x0:PySem.Str}{i:String}(hg:Built Ω ns id x0)(hx:x0≠"__name__")(hv:bootBuiltins x0=some (.type i))(n:notStar pa=true)(ha:ES Ω A C ns sl ma pa)(F:Fr t env ns sl me)
  (h:∀{hp1 s1 x v} {t1:Wl Ω Kp hp1 s1},t1.V v x->ae t1 (k x) (Wp Ω A (call (.type i) [v])) (VR Ω)):ae t (aL (ev Ω.P C ma me) k) (Wp Ω A (eval (.Call (.Name id p) [pa] [] pos) env)) (VR Ω):=
 ae.wp (λh=>Call_Name rfl (hU F hg hx hv (PyProof.Rows.callWith_type (plain1 n) (tB n h)))) (one ha F λ_ _ V=>h V)
theorem IH(hr:lF d A){o:B1}{id:PySem.Str}{p:Pos}(hg:Built Ω ns id (Fy o))(n:notStar pa=true)(ha:ES Ω A C ns sl ma pa):ES Ω A C ns sl (.b1 o ma) (.Call (.Name id p) [pa] [] pos):=λF=>by
 cases o with
 | len=>exact oj hg (by decide) Nb n ha F λV=>ae.rd λz e=>M5 V e
 | any=>exact oj hg (by decide) Nc n ha F λV=>ae.rd λz e=>Q6 hr.1 V e
 | all=>exact oj hg (by decide) Nd n ha F λV=>ae.rd λz e=>Q7 hr.1 V e
 | sorted=>exact oj hg (by decide) BZ n ha F λV=>ae.rd λz e=>CY V e
 | max=>exact oj hg (by decide) Ft n ha F λV=>ae.rd λz e=>PA hr.1 V e
 | str=>exact zt hg (by decide) Na n ha F λV=>ae.rd λz e=>Oy V e
theorem vQ{id:PySem.Str}{p:Pos}(hg:Built Ω ns id "range")(n:notStar pa=true)(ha:ES Ω A C ns sl ma pa):ES Ω A C ns sl (.gW ma) (.Call (.Name id p) [pa] [] pos):=λF=>
 zt hg (by decide) w4 n ha F λV=>ae.gu (λi ex=>ae.gd λc=>Dw (ex▸V) (of_decide_eq_true c)) ae.no
theorem vP{id:PySem.Str}{p:Pos}(hg:Built Ω ns id "range")(n:notStar pa=true)(n':notStar pb=true)(ha:ES Ω A C ns sl ma pa)(hb:ES Ω A C ns sl mb pb):ES Ω A C ns sl (.qr ma mb) (.Call (.Name id p) [pa,pb] [] pos):=λF=>
 ae.wp (λh=>Call_Name rfl (hU F hg (by decide) w4 (PyProof.Rows.callWith_type (plain2 n n') (AA n n' h)))) (one ha F λl F V=>ae.gu (λi ex=>one hb F λl2 F V2=>ae.gu (λj ey=>ae.gd λc=>Dv (ex▸l2.V V) (ey▸V2) (of_decide_eq_true c)) ae.no) ae.no)
theorem Bg(hr:lF d A){id:PySem.Str}{p:Pos}(hg:Built Ω ns id "max")(n:notStar pa=true)(n':notStar pb=true)(ha:ES Ω A C ns sl ma pa)(hb:ES Ω A C ns sl mb pb):ES Ω A C ns sl (.max2 ma mb) (.Call (.Name id p) [pa,pb] [] pos):=λF=>
 ae.wp (λh=>Call_Name rfl (hU F hg (by decide) Ft (PySem.Calls.callWith_builtin (plain2 n n') (AA n n' h)))) (two ha hb F λ_ _ V V'=>LH hr.1 V V')
noncomputable def fL(T:String)(v:Value)(s:Shared):Prop:=s.TypeIs v T/\∀a,v= .ref a->∃ob,s.heap.get? a=some ob/\ob.dict=none
theorem mr(V:t.V v x)(e:fF hp x=true):fL "list" v s:=by
 have e:oL (hp.get x) (λ_=>some ()) none=some ():=by unfold fF at e;revert e;cases hp.get x with
  | none=>exact λe=>nomatch e
  | some o=>cases o <;> first | exact λ_=>rfl | exact λe=>nomatch e
 exact vU e (λxs e1 _=>fV t.S V (P:=λv=>fL "list" v s) e1 λa ha o=>o.c9.elim λvs k=>k.elim λn k=>⟨⟨_,k.1,rfl⟩,λb q=>⟨_,Value.ref.inj q▸k.1,rfl⟩⟩) aA
theorem wM{K':Type} [DecidableEq K']{knd:KeyKind Ω.prog Ω.w K'}{a:Addr}{kvs:List (K'×Value)}(x:s.heap.DictOf knd a kvs):fL "dict" (.ref a) s:=by
 obtain ⟨o,es,ep,ho,he,r⟩:=x
 exact ⟨⟨_,ho,he.1⟩,λb q=>⟨_,Value.ref.inj q▸ho,he.2.1⟩⟩
theorem qu(V:t.V v x)(e:gI hp x=true):fL "dict" v s:=by
 have e:ie (bH hp x) (λ_=>some ()) (oF (bH hp x) (λ_=>some ()) none)=some ():=by unfold gI at e;revert e;cases bH hp x with
  | none=>exact λe=>nomatch e
  | some o=>cases o <;> first | exact λ_=>rfl | exact λe=>nomatch e
 exact oE e (λxs e1 _=>iS t.S V (P:=λv=>fL "dict" v s) e1 λ_ _ _ k _=>wM k) λe=>qv e (λxs e1 _=>kM t.S V (P:=λv=>fL "dict" v s) e1 λ_ _ _ k _=>wM k) aA
theorem A3{xs:Sx}(V:t.V v (.str xs)):fL "str" v s:=V.dR rfl (P:=λv=>fL "str" v s) λtk _=>⟨typeIs_str _ _ _,λb q=>nomatch q⟩
theorem ae.pl{T:String}(hp:fL T v s)(h:ae t m w R):ae t m (λE Q s=>fL T v s/\w E Q s) R:=λx hp' e E Q q=>⟨hp,h x hp' e E Q q⟩
theorem ae.Ry{q:Hp->α}{k:α->HM γ}{w:Tr δ}(h:∀b,q hp=b->ae t (k b) w R'):ae t (aL (lO λh=>some (q h)) k) w R':=h _ rfl
theorem sQ{T i:String}{name:PySem.Str}{lit:PySem.Str}{apos:Pos}{pargs:List Expr}{k:aa->HM aa}{f:Value->Tr Value}(pA:PlainAttrs T)(slot:Slot T lit i)(hty:typeOf (.builtin i)=pure (.type "method_descriptor"))(hn:sEq name lit=true)
  (oU:aZ pa=true) (hline:Nat.beq apos.endLine pos.line=true) (hpl:(backTo pos (starEach pargs env)).any (·.1)=false) (hlen:pargs.length < 30)
  (hf:∀{v E Q s},f v E Q s->wpAny (model Ω.prog Ω.w) A (evalArgs (.builtin i) true (backTo pos (starEach pargs env)) []) (λar s2=>wpAny (model Ω.prog Ω.w) A (call (.builtin i) (v::ar.pos) ar.kw) Q E s2) E s)
  (ha:ES Ω A C ns sl ma pa) (F:Fr t env ns sl me) (h:∀{hp1 s1 x v} {t1:Wl Ω Kp hp1 s1},t.le t1->Fr t1 env ns sl me->t1.V v x->ae t1 (k x) (λE Q s=>fL T v s/\f v E Q s) (VR Ω)):ae t (aL (ev Ω.P C ma me) k) (Wp Ω A (eval (.Call (.Attribute pa name apos) pargs [] pos) env)) (VR Ω):=
 ae.wp (λh=>by
  rw [iF hn]
  refine wpAny_Call_method_late (trees:=backTo pos (starEach pargs env)) (mP oU) ?_ (by rw [jM hline];exact beq_self_eq_true _) rfl (wpAny_mono h (λv s1 h=>⟨T,i,pA,slot,hty,h.1.1,h.1.2,PySem.Calls.callWith_builtin hpl (hf h.2)⟩) λ_ _ h=>h)
  exact Bool.and_eq_true_iff.mpr ⟨Bool.and_eq_true_iff.mpr ⟨List.all_eq_true.mpr λq hq=>by rw [eq_false_of_ne_true (List.any_eq_false.mp hpl q hq)];rfl,rfl⟩,decide_eq_true hlen⟩) (one ha F λl F V=>h l F V)
theorem xj{name:PySem.Str}{apos:Pos}(hn:sEq name "append"=true)(oU:aZ pa=true)(hline:Nat.beq apos.endLine pos.line=true)(n:notStar pb=true)(ha:ES Ω A C ns sl ma pa)(hb:ES Ω A C ns sl mb pb):ES Ω A C ns sl (.append ma mb) (.Call (.Attribute pa name apos) [pb] [] pos):=λF=>
 sQ PySem.F.plainAttrs_list PySem.F.slot_list_append PySem.F.type_list_append hn oU hline (plain1 n) (bY rfl) (λh=>tB n h) ha F λl F V=>ae.Ry λb e=>ae.gd λc=>ae.pl (mr V (e.trans c)) (one hb F λl2 _ V2=>FL (l2.V V) V2)
theorem Bz{α:Type}{hp:Hp}{x:aa}{f:List aa->HM α}{h:Hp}{r:α×Hp}(e:oL (hp.get x) f no h=some r):fF hp x=true:=by
 unfold fF;revert e;cases hp.get x with
  | none=>exact λe=>nomatch e
  | some o=>cases o <;> first | exact λ_=>rfl | exact λe=>nomatch e
theorem Dz{name:PySem.Str}{apos:Pos}(hn:sEq name "pop"=true)(oU:aZ pa=true)(hline:Nat.beq apos.endLine pos.line=true)(ha:ES Ω A C ns sl ma pa):ES Ω A C ns sl (.pop ma) (.Call (.Attribute pa name apos) [] [] pos):=λF=>
 sQ PySem.F.plainAttrs_list PySem.F.slot_list_pop PySem.F.type_list_pop hn oU hline rfl (by decide) (λh=>evalArgs_nil3 h) ha F λl F V=>λz hp' e E Q q=>⟨mr V (Bz e),O7 V z hp' e E Q q⟩
theorem wK{name:PySem.Str}{apos:Pos}(hn:sEq name "extend"=true)(oU:aZ pa=true)(hline:Nat.beq apos.endLine pos.line=true)(n:notStar pb=true)(ha:ES Ω A C ns sl ma pa)(hb:ES Ω A C ns sl mb pb):ES Ω A C ns sl (.extend ma mb) (.Call (.Attribute pa name apos) [pb] [] pos):=λF=>
 sQ PySem.F.plainAttrs_list PySem.F.slot_list_extend PySem.F.type_list_extend hn oU hline (plain1 n) (bY rfl) (λh=>tB n h) ha F λl F V=>ae.Ry λb e=>ae.gd λc=>ae.pl (mr V (e.trans c)) (one hb F λl2 _ V2=>ae.pQ (λys ey=>EZ (l2.V V) (ey▸V2)) ae.no)
theorem A2{name:PySem.Str}{apos:Pos}(hn:sEq name "pop"=true)(oU:aZ pa=true)(hline:Nat.beq apos.endLine pos.line=true)(n:notStar pb=true)(n':notStar pc=true)(ha:ES Ω A C ns sl ma pa)(hb:ES Ω A C ns sl mb pb)(hc:ES Ω A C ns sl mc pc):
  ES Ω A C ns sl (.Dx ma mb mc) (.Call (.Attribute pa name apos) [pb,pc] [] pos):=λF=>
 sQ PySem.F.plainAttrs_dict PySem.F.slot_dict_pop PySem.F.type_dict_pop hn oU hline (plain2 n n') (bY rfl) (λh=>AA n n' h) ha F λl F V=>ae.Ry λb e=>ae.gd λc=>ae.pl (qu V (e.trans c)) (one hb F λl2 F V2=>ae.iH (λss ey=>one hc F λl3 _ V3=>Lc (l3.V (l2.V V)) (ey▸l3.V V2) V3) ae.no)
theorem EM{name:PySem.Str}{apos:Pos}(hn:sEq name "get"=true)(oU:aZ pa=true)(hline:Nat.beq apos.endLine pos.line=true)(n:notStar pb=true)(n':notStar pc=true)(ha:ES Ω A C ns sl ma pa)(hb:ES Ω A C ns sl mb pb)(hc:ES Ω A C ns sl mc pc):
  ES Ω A C ns sl (.get ma mb mc) (.Call (.Attribute pa name apos) [pb,pc] [] pos):=λF=>
 sQ PySem.F.plainAttrs_dict PySem.F.slot_dict_get PySem.F.type_dict_get hn oU hline (plain2 n n') (bY rfl) (λh=>AA n n' h) ha F λl F V=>ae.Ry λb e=>ae.gd λc=>ae.pl (qu V (e.trans c)) (two hb hc F λl2 _ V2 V3=>ae.rd λz e=>Qp (l2.V V) V2 V3 e)
theorem Di{i:String}{name:PySem.Str}{lit:PySem.Str}{apos:Pos}{k:Sx->aa->HM aa}(slot:Slot "str" lit i)(hty:typeOf (.builtin i)=pure (.type "method_descriptor"))(hn:sEq name lit=true)
  (oU:aZ pa=true) (hline:Nat.beq apos.endLine pos.line=true) (n:notStar pb=true) (ha:ES Ω A C ns sl ma pa) (hb:ES Ω A C ns sl mb pb) (F:Fr t env ns sl me) (h:∀{hp1 s1 ss y v u} {t1:Wl Ω Kp hp1 s1},t1.V v (.str ss)->t1.V u y->ae t1 (k ss y) (Wp Ω A (call (.builtin i) [v,u])) (VR Ω)):
  ae t (aL (ev Ω.P C ma me) λx=>x.iH (λss=>aL (ev Ω.P C mb me) (k ss)) no) (Wp Ω A (eval (.Call (.Attribute pa name apos) [pb] [] pos) env)) (VR Ω):=
 sQ PySem.F.plainAttrs_str slot hty hn oU hline (plain1 n) (bY rfl) (λh=>tB n h) ha F λl F V=>ae.iH (λss ex=>ae.pl (A3 (ex▸V)) (one hb F λl2 _ V2=>h (ex▸l2.V V) V2)) ae.no
theorem xQ{name:PySem.Str}{apos:Pos}(hn:sEq name "split"=true)(oU:aZ pa=true)(hline:Nat.beq apos.endLine pos.line=true)(n:notStar pb=true)(ha:ES Ω A C ns sl ma pa)(hb:ES Ω A C ns sl mb pb):ES Ω A C ns sl (.split ma mb) (.Call (.Attribute pa name apos) [pb] [] pos):=λF=>
 Di PySem.F.slot_str_split PySem.F.type_str_split hn oU hline n ha hb F λV V2=>ae.iH (λst ey=>ae.op λc e=>ae.sm λhs=>GF V (by
  have:st=[c]:=by unfold one? at e;split at e <;> cases e;rfl
  exact this▸ey▸V2) hs) ae.no
theorem vC{name:PySem.Str}{apos:Pos}(hn:sEq name "startswith"=true)(oU:aZ pa=true)(hline:Nat.beq apos.endLine pos.line=true)(n:notStar pb=true)(ha:ES Ω A C ns sl ma pa)(hb:ES Ω A C ns sl mb pb):ES Ω A C ns sl (.starts ma mb) (.Call (.Attribute pa name apos) [pb] [] pos):=λF=>
 Di PySem.F.slot_str_startswith PySem.F.type_str_startswith hn oU hline n ha hb F λV V2=>ae.iH (λst ey=>CR V (ey▸V2)) ae.no
theorem Bu{name:PySem.Str}{apos:Pos}(hn:sEq name "join"=true)(oU:aZ pa=true)(hline:Nat.beq apos.endLine pos.line=true)(n:notStar pb=true)(ha:ES Ω A C ns sl ma pa)(hb:ES Ω A C ns sl mb pb):ES Ω A C ns sl (.join ma mb) (.Call (.Attribute pa name apos) [pb] [] pos):=λF=>
 Di PySem.F.slot_str_join PySem.F.type_str_join hn oU hline n ha hb F λV V2=>ae.rd λz e=>L7 V V2 e
end
section
variable{Ω:Cx}{Φ Φ' Kp Kp':Facts}{σ σ':Sg}{hp hp':Hp}{h h':Heap}{s s':Shared}{A:Around}{v u:Value}{x y z:aa}{α β γ δ:Type}{t:Wl Ω Kp hp s}{w w1 w2:Tr β}{R:Rl β α}{R':Rl δ γ}{b c:Bool}{a:Addr}{m n:HM α}
variable{C:jj}{ns:bc}{sl:Slots}{env:PySem.Env}{me:Mn.Env}{pa pb pc:Expr}{ma mb mc:ME}{pos:Pos}{d:Nat}{own as:List Addr}{E:Value->Shared->Prop}
noncomputable def Kc(Ω:Cx)(Φ Kp:Facts)(σ:Sg)(h:Heap)(env:PySem.Env)(own:List Addr)(sl:Slots)(me:Mn.Env):Prop:=
 ∃m cm:PySem.Str->Option Value,h.Ns env.locals m/\(∀n,env.kindOf n=some .cell->∃c o,env.cells.lookup n=some c/\h.get? c=some o/\o.data= .cell (cm n)/\(c∈own\/Kp c o))/\
  ∀n i x,sl.lookup n=some i->me[i]?=some x->x≠ .undef->∃v,VR Ω Φ σ v x/\((env.kindOf n=some .local/\m n=some v)\/(env.kindOf n=some .cell/\cm n=some v))
structure FS(t:Wl Ω Kp hp s)(env:PySem.Env)(own:List Addr)(sl:Slots)(me:Mn.Env):Prop where
 free:∀b∈own,Un t.Φ Kp t.σ hp b
 DY:env.locals∈own
 fn:env.scope.kind= .function
 gl:env.globals=mainGlobals
 bl:env.builtins=builtinsNs
 QL:∀n i,sl.lookup n=some i->(n==("__debug__":PySem.Str))=false
 inj:∀n n' i,sl.lookup n=some i->sl.lookup n'=some i->n=n'
 apart:∀n n' c,c∈own->env.cells.lookup n=some c->env.cells.lookup n'=some c->n=n'
 live:∀b∈own,∃o,s.heap.get? b=some o
 vars:Kc Ω t.Φ Kp t.σ s.heap env own sl me
theorem FS.fr(F:FS t env own sl me)(en:env.scope.names=ns)(N:∀b∈own++as,Un t.Φ Kp t.σ hp b):Fr (t.plus (own++as) N) env ns sl me:=by
 obtain ⟨m,cm,⟨o,es,ep,q1,q2⟩,h2,h3⟩:=F.vars
 have k:∀{c o},s.heap.get? c=some o->(c∈own\/Kp c o)->(Kp.and s.heap (own++as)) c o:=λe k=>k.elim (λk=>.inr ⟨cu _ k,e⟩) .inl
 exact ⟨en,F.fn,F.gl,F.bl,F.QL,F.inj,λn e=>(h2 n e).elim λc q=>q.elim λo q=>⟨c,o,_,q.1,k q.2.1 q.2.2.2,q.2.2.1⟩,m,⟨o,es,ep,k q1 (.inl F.DY),q2⟩,λn i x e1 e2 e3=>
  (h3 n i x e1 e2 e3).imp λv r=>⟨r.1,r.2.imp_right λkk=>⟨kk.1,(h2 n kk.1).elim λc q=>q.elim λo q=>⟨c,o,q.1,k q.2.1 q.2.2.2,q.2.2.1.trans (congrArg _ kk.2)⟩⟩⟩⟩
theorem FS.move(F:FS t env own sl me)(t':Wl Ω Kp hp' s')(l:Le t.Φ t'.Φ)(r:ow t.σ t'.σ)(f:∀b∈own,Un t'.Φ Kp t'.σ hp' b)(k:∀b o,(b∈own\/Kp b o)->s.heap.get? b=some o->s'.heap.get? b=some o):FS t' env own sl me:=
 {F with
  free:=f
  live:=λb hb=>(F.live b hb).imp λo e=>k b o (.inl hb) e
  vars:=F.vars.imp λm q=>q.imp λcm q=>⟨q.1.imp λo q=>q.imp λ_ q=>q.imp λ_ q=>⟨k _ _ (.inl F.DY) q.1,q.2⟩,λn e=>(q.2.1 n e).imp λc q=>q.imp λo q=>⟨q.1,k _ _ q.2.2.2 q.2.1,q.2.2⟩,
   λn i x e1 e2 e3=>(q.2.2 n i x e1 e2 e3).imp λv q=>⟨q.1.mono l r,q.2⟩⟩}
theorem eu{P:Addr->Prop}{l1 l2:List Addr}(h1:∀b∈l1,P b)(h2:∀b∈l2,P b):∀b∈l1++l2,P b:=λb hb=>(List.mem_append.mp hb).elim (h1 b) (h2 b)
theorem FS.back(F:FS t env own sl me){fa:∀b∈as,Un t.Φ Kp t.σ hp b}(t1:Wl Ω (Kp.and s.heap (own++as)) hp' s')(l:t.le (t1.weak Facts.bQ)):
  FS (t1.weak Facts.bQ) env own sl me/\(∀b∈as,∀o,s.heap.get? b=some o->s'.heap.get? b=some o/\Un t1.Φ Kp t1.σ hp' b):=
 have kp:∀b∈own++as,∀o,s.heap.get? b=some o->s'.heap.get? b=some o:=λb hb o e=>t1.S.kp _ _ (.inr ⟨hb,e⟩)
 have un:∀b∈own++as,∀o,s.heap.get? b=some o->Un t1.Φ Kp t1.σ hp' b:=λb hb o e=>have q:=t1.S.uP ⟨o,.inr ⟨hb,e⟩⟩;⟨q.1,(eu F.free fa b hb).2.1,q.2⟩
 ⟨F.move (t1.weak Facts.bQ) l.l l.r (λb hb=>(F.live b hb).elim λo e=>un b (cu _ hb) o e) λb o k e=>k.elim (λk=>kp b (cu _ k) o e) λk=>t1.S.kp _ _ (.inl k),
  λb hb o e=>⟨kp b (c6 _ hb) o e,un b (c6 _ hb) o e⟩⟩
noncomputable def Wl.grow(t:Wl Ω Kp hp s){h':Heap}(k:∀b o,s.heap.get? b=some o->h'.get? b=some o)(tk:Nat):Wl Ω Kp hp {s with heap:=h',toks:=tk}:=⟨t.Φ,t.σ,t.B,t.g,t.S.ext k⟩
theorem Wl.pS{h':Heap}{k:∀b o,s.heap.get? b=some o->h'.get? b=some o}{tk:Nat}:t.le (t.grow k tk):=⟨⟨h',tk,rfl⟩,.refl,.refl⟩
theorem FS.grow(F:FS t env own sl me){h':Heap}(k:∀b o,s.heap.get? b=some o->h'.get? b=some o)(tk:Nat):FS (t.grow k tk) env own sl me:=F.move _ .refl .refl F.free λb o _ e=>k b o e
noncomputable def Wl.turn(t:Wl Ω Kp hp s){h':Heap}{a:Addr}(N:Un t.Φ Kp t.σ hp a)(k:∀b o,b≠a->s.heap.get? b=some o->h'.get? b=some o)(tk:Nat):Wl Ω Kp hp {s with heap:=h',toks:=tk}:=⟨t.Φ,t.σ,t.B,t.g,t.S.extBut (λb o q=>k b o q) N.1 N.2.1 N.2.2⟩
theorem Wl.fw{h':Heap}{N:Un t.Φ Kp t.σ hp a}{k:∀b o,b≠a->s.heap.get? b=some o->h'.get? b=some o}{tk:Nat}:t.le (t.turn N k tk):=⟨⟨h',tk,rfl⟩,.refl,.refl⟩
theorem FS.turn(F:FS t env own sl me){h':Heap}(N:Un t.Φ Kp t.σ hp a)(n:a∉own)(k:∀b o,b≠a->s.heap.get? b=some o->h'.get? b=some o)(tk:Nat):FS (t.turn N k tk) env own sl me:=
 F.move _ .refl .refl F.free λb o q e=>k b o (λc=>q.elim (λq=>n (c▸q)) λq=>N.2.1 ⟨o,c▸q⟩) e
theorem xU{l:Mn.Env}{i:Nat}{x y:aa}(h:(l.set i x)[i]?=some y):y=x:=by
 have:=(List.getElem?_eq_some_iff.mp h).1
 rw [List.length_set]at this
 rw [List.getElem?_set_self this]at h
 exact (ay h).symm
noncomputable def oq(env:PySem.Env)(own:List Addr)(n:PySem.Str):Prop:=env.kindOf n=some .local\/(env.kindOf n=some .cell/\∀c,env.cells.lookup n=some c->c∈own)
noncomputable def zj(t:Wl Ω Kp hp s)(env:PySem.Env)(own:List Addr)(sl:Slots)(me:Mn.Env)(Q:Unit->Shared->Prop):Prop:=
 ∀s1 (t1:Wl Ω Kp hp s1),t.le t1->(∀b,Un t.Φ Kp t.σ hp b->Un t1.Φ Kp t1.σ hp b)->(∀b o,b∉own->s.heap.get? b=some o->s1.heap.get? b=some o)->FS t1 env own sl me->Q () s1
theorem FS.store(F:FS t env own sl me){n:PySem.Str}{i:Nat}(hs:sl.lookup n=some i)(hk:oq env own n)(V:t.V v x){Q:Unit->Shared->Prop}(q:zj t env own sl (me.set i x) Q):wpAny (model Ω.prog Ω.w) A (storeName env n v) Q E s:=by
 obtain ⟨m,cm,h1,h2,h3⟩:=F.vars
 have upd:∀{n':PySem.Str} {i':Nat} {y:aa},sl.lookup n'=some i'->(me.set i x)[i']?=some y->(n'=n/\y=x)\/(n'≠n/\me[i']?=some y):=λ{n' i' y} e1 e2=>by
  by_cases c:n'=n
  ·obtain rfl:=ay (hs.symm.trans (c▸e1));exact .inl ⟨c,xU e2⟩
  ·rw [List.getElem?_set_ne λq:i=i'=>c (F.inj n' n i' e1 (hs.trans (congrArg some q)))]at e2;exact .inr ⟨c,e2⟩
 have go:∀{a h' tk},a∈own->Heap.SameBut a s.heap h'->(∃o,h'.get? a=some o)->Kc Ω t.Φ Kp t.σ h' env own sl (me.set i x)->Q () {s with heap:=h',toks:=tk}:=λ{a h' tk} ha b lv vv=>
  q _ (t.turn (F.free a ha) (λb' o=>b.extBut b' o) tk) Wl.fw (λ_ u=>u) (λb' o hb e=>b.extBut b' o (λc=>hb (c▸ha)) e) ⟨F.free,F.DY,F.fn,F.gl,F.bl,F.QL,F.inj,F.apart,λb' hb=>by
   by_cases c:b'=a
   ·exact c▸lv
   ·exact (F.live b' hb).imp λo e=>b.extBut b' o c e,vv⟩
 rcases hk with hk | ⟨hk,hc⟩
 ·refine wpAny_storeName_local hk h1 (λh' k1 k2=>go F.DY k2 (k1.imp λo k=>k.elim λ_ k=>k.elim λ_ k=>k.1) ⟨_,cm,k1,λn' e=>?_,λn' i' y e1 e2 e3=>?_⟩) (by rw [F.fn];rfl)
  ·obtain ⟨c,o,j1,j2,j3,j4⟩:=h2 n' e
   refine ⟨c,o,j1,k2.extBut c o (λq=>?_) j2,j3,j4⟩
   obtain ⟨o',es,ep,e',d',_⟩:=h1
   rw [q,e']at j2
   rw [<-ay j2,d']at j3
   cases j3
  ·exact (upd e1 e2).elim (λk=>⟨v,k.2▸V,.inl ⟨k.1▸hk,if_pos k.1⟩⟩) λk=>(h3 n' i' y e1 k.2 e3).imp λv' r=>⟨r.1,r.2.imp_left λq=>⟨q.1,(if_neg k.1).trans q.2⟩⟩
 ·obtain ⟨c,o,j1,j2,j3,j4⟩:=h2 n hk
  have ho:=hc c j1
  refine wpAny_storeName_cell F.fn hk j1 ⟨o,j2,j3⟩ λh' k1 k2=>?_
  obtain ⟨oc,oc1,oc2⟩:=k1
  refine go (tk:=s.toks) ho k2 ⟨oc,oc1⟩ ⟨m,λy=>if y=n then some v else cm y,?_,λn' e=>?_,λn' i' y e1 e2 e3=>?_⟩
  ·refine h1.imp λo' q=>q.imp λ_ q=>q.imp λ_ q=>⟨k2.extBut _ _ (λc'=>?_) q.1,q.2⟩
   have q1:=q.1
   rw [c',j2]at q1
   have d:=q.2.1
   rw [<-ay q1,j3]at d
   cases d
  ·by_cases cn:n'=n
   ·exact ⟨c,oc,cn▸j1,oc1,by rw [oc2];exact congrArg _ (if_pos cn).symm,.inl ho⟩
   ·exact (h2 n' e).imp λc' q=>q.imp λo' q=>⟨q.1,k2.extBut c' o' (λz=>cn (F.apart n' n c ho (z▸q.1) j1)) q.2.1,q.2.2.1.trans (congrArg _ (if_neg cn).symm),q.2.2.2⟩
  ·exact (upd e1 e2).elim (λk=>⟨v,k.2▸V,.inr ⟨k.1▸hk,if_pos k.1⟩⟩) λk=>(h3 n' i' y e1 k.2 e3).imp λv' r=>⟨r.1,r.2.imp_right λq=>⟨q.1,(if_neg k.1).trans q.2⟩⟩
theorem FS.less(F:FS t env own sl me){me2:Mn.Env}(k:∀n i x,sl.lookup n=some i->me2[i]?=some x->x≠ .undef->me[i]?=some x):FS t env own sl me2:=
 {F with vars:=F.vars.imp λm q=>q.imp λcm q=>⟨q.1,q.2.1,λn i x e1 e2 e3=>q.2.2 n i x e1 (k n i x e1 e2 e3) e3⟩}
end
noncomputable def Pq(e:Expr):Option {id:PySem.Str // ∃p,e= .Name id p}:=match e with
 | .Name id p=>some ⟨id,p,rfl⟩
 | _=>none
noncomputable def Oc(e:Expr):Option {es:List Expr // ∃k p,e= .Tuple es k p}:=match e with
 | .Tuple es k p=>some ⟨es,k,p,rfl⟩
 | _=>none
noncomputable def Rw:List Nat->List Expr->Option Slots
 | [],[]=>some []
 | i::is,e::es=>(Pq e).bind λid=>(Rw is es).bind λr=>some ((id.1,i)::r)
 | _,_=>none
noncomputable def c7(t:ji)(pt:Expr):Option Slots:=match t with
 | .v i=>(Pq pt).bind λid=>some [(id.1,i)]
 | .tup is=>(Oc pt).bind λes=>Rw is es.1
inductive xy:List Nat->List Expr->Slots->Prop
 | nil:xy [] [] []
 | cons {id p i es is tg}:xy is es tg->xy (i::is) (.Name id p::es) ((id,i)::tg)
theorem CI(is:List Nat):∀{es tg},Rw is es=some tg->xy is es tg:=List.rec (motive:=λis=>∀{es tg},Rw is es=some tg->xy is es tg)
 (λ{es tg} e=>match es,e with
  | [],e=>ay e▸ .nil) (λi is ih es tg e=>match es,e with
  | [],e=>nomatch e
  | pe::es,e=>by
   obtain ⟨⟨id,p,k⟩,e1,e⟩:=Option.bind_eq_some_iff.mp (show (Option.bind _ _)=some tg from e)
   obtain ⟨r,e2,e⟩:=Option.bind_eq_some_iff.mp e
   exact ay e▸k▸ .cons (ih e2)) is
section
variable{Ω:Cx}{Φ Φ' Kp Kp':Facts}{σ σ':Sg}{hp hp':Hp}{h h':Heap}{s s':Shared}{A:Around}{v u:Value}{x y z:aa}{α β γ δ:Type}{t:Wl Ω Kp hp s}{w w1 w2:Tr β}{R:Rl β α}{R':Rl δ γ}{b c:Bool}{a:Addr}{m n:HM α}
variable{C:jj}{ns:bc}{sl:Slots}{env:PySem.Env}{me me':Mn.Env}{pa pb pc:Expr}{ma mb mc:ME}{pos:Pos}{d:Nat}{own as:List Addr}{E:Value->Shared->Prop}
theorem MI{I:Addr}{xs:List aa}{At:Nat->Heap->Prop}(T:It Ω A Φ σ I xs At)(k:Nat):∀(i:Nat) (s:Shared) (Q:List Value->Shared->Prop),i + k<=xs.length->At i s.heap->
  (∀vs h' tk,fT Ω Φ σ vs ((xs.drop i).take k)->At (i + k) h'->(∀b o,b≠I->s.heap.get? b=some o->h'.get? b=some o)->Q vs {s with heap:=h',toks:=tk})->wpAny (model Ω.prog Ω.w) A (draw (.ref I) k) Q E s:=
 Nat.rec (motive:=λk=>∀(i:Nat) (s:Shared) (Q:List Value->Shared->Prop),i + k<=xs.length->At i s.heap->
  (∀vs h' tk,fT Ω Φ σ vs ((xs.drop i).take k)->At (i + k) h'->(∀b o,b≠I->s.heap.get? b=some o->h'.get? b=some o)->Q vs {s with heap:=h',toks:=tk})->wpAny (model Ω.prog Ω.w) A (draw (.ref I) k) Q E s)
 (λi s Q hk a q=>wpAny_pure (q [] s.heap s.toks (by rw [List.take_zero];exact .nil) a λ_ _ _ e=>e)) (λk ih i s Q hk a q=>by
  have hi:i < xs.length:=eG (kW (Nat.succ_pos k)) hk
  have e:i + (k + 1)=i + 1 + k:=by rw [Nat.add_comm k 1,Nat.add_assoc]
  refine wpAny_bind (T.item (List.getElem?_eq_getElem hi) a λv h1 tk1 r a1 k1=>?_)
  refine wpAny_bind (wpAny_holding (ih (i + 1) {s with heap:=h1,toks:=tk1} _ (e▸hk) a1 λvs h2 tk2 rs a2 k2=>wpAny_pure ?_))
  refine q _ h2 tk2 ?_ (e▸a2) λb o n e=>k2 b o n (k1 b o n e)
  rw [List.drop_eq_getElem_cons hi,List.take_succ_cons]
  exact .cons r rs) k
theorem Cy(hh:A.handled=none)(t:Wl Ω Kp hp s){xs:List aa}(V:t.V v x)(hx:x= .list xs\/x= .tup xs){Q:List Value->Shared->Prop}
  (q:∀vs h' tk,fT Ω t.Φ t.σ vs xs->(∀b o,s.heap.get? b=some o->h'.get? b=some o)->Q vs {s with heap:=h',toks:=tk}):wpAny (model Ω.prog Ω.w) A (unpackItems v xs.length none) Q E s:=by
 have e:itemsOf x=some xs:=hx.elim (λq=>q▸rfl) λq=>q▸rfl
 have hn:∀{Q:Bool->Shared->Prop},Q false s->wpAny (model Ω.prog Ω.w) A (notIterableAtAll v) Q E s:=λ{Q} hq=>hx.elim
  (λex=>c9 t.S V (ex▸rfl:bH hp x=some (.list xs)) (P:=λv=>wpAny (model Ω.prog Ω.w) A (notIterableAtAll v) Q E s) λa vs h1 h2=>wpAny_bind (wpAny_specialOf h1.typeIs PySem.F.slot_list_iter.lookup (wpAny_pure hq)))
  λex=>mf t.S V ex (P:=λv=>wpAny (model Ω.prog Ω.w) A (notIterableAtAll v) Q E s) λa vs h1 h2=>wpAny_bind (wpAny_specialOf (IsTup.typeIs h1) PySem.F.slot_tuple_iter.lookup (wpAny_pure hq))
 refine wpAny_bind (hn ?_)
 rw [if_neg (by decide)]
 refine wpAny_bind (wpAny_holding (yw hh t V e λI h1 At n0 k1 a0 T=>?_))
 refine wpAny_bind (wpAny_holding (MI T xs.length 0 _ _ (by rw [Nat.zero_add];exact aO _) a0 λvs h2 tk2 rs a2 k2=>?_))
 rw [List.drop_zero,List.take_length]at rs
 dsimp only
 rw [if_neg (by rw [rs.length];exact Nat.lt_irrefl _)]
 refine wpAny_bind (wpAny_holding (T.done (by rw [Nat.zero_add]at a2;exact a2) λh3 tk3 k3=>?_))
 rw [if_neg (λh=>nomatch h)]
 exact wpAny_pure (q vs h3 tk3 rs λb o e=>have ne:b≠I:=λq=>c8 (q▸n0) e;k3 b o ne (k2 b o ne (k1 b o e)))
theorem xy.len{is:List Nat}{es:List Expr}{tg:Slots}(t:xy is es tg):es.length=is.length:=xy.rec rfl (λ_ e=>congrArg Nat.succ e) t
theorem xy.each{is:List Nat}{es:List Expr}{tg:Slots}(t:xy is es tg):(assignEach es env).length=es.length/\(assignEach es env).findIdx? (·.1)=none:=
 xy.rec (motive:=λis es tg _=>(assignEach es env).length=es.length/\(assignEach es env).findIdx? (λp:Bool×(Value->Sem Unit)=>p.1)=none) ⟨rfl,rfl⟩ (λ{id p i es is tg} _ ih=>⟨congrArg Nat.succ ih.1,by
  show List.findIdx? (λp:Bool×(Value->Sem Unit)=>p.1) ((false,assign (.Name id p) env)::assignEach es env)=none
  rw [List.findIdx?_cons,ih.2];rfl⟩) t
theorem xy.seq{is:List Nat}{es:List Expr}{tg:Slots}(T:xy is es tg):∀{s:Shared} {t:Wl Ω Kp hp s} {me:Mn.Env} {vs:List Value} {xs:List aa},FS t env own sl me->fT Ω t.Φ t.σ vs xs->is.length=xs.length->
  (∀p∈tg,sl.lookup p.1=some p.2/\oq env own p.1)->∀{Q:Unit->Shared->Prop},zj t env own sl ((is.zip xs).foldl (λe p=>e.set p.1 p.2) me) Q->wpAny (model Ω.prog Ω.w) A (assignInOrder ((assignEach es env).map (·.2)) vs) Q E s:=by
 induction T with
 | nil=>
  intro s t me vs xs F V hl hk Q q
  cases V with
  | nil=>exact wpAny_pure (q s t .refl (λ_ u=>u) (λ_ _ _ e=>e) F)
  | cons _ _=>cases hl
 | cons T ih=>
  intro s t me vs xs F V hl hk Q q
  cases V with
  | nil=>cases hl
  | cons a b=>
   have k:=hk _ aF
   refine wpAny_bind (wpAny_holding (wpAny_assign_Name (F.store k.1 k.2 a λs1 t1 l1 u1 e1 F1=>?_)))
   exact ih F1 (fT.up b l1.l l1.r) (Nat.succ.inj hl) (λp hp=>hk p (bB _ hp)) λs2 t2 l2 u2 e2 F2=>q s2 t2 (l1.trans l2) (λb u=>u2 b (u1 b u)) (λb o n e=>e2 b o n (e1 b o n e)) F2
theorem rJ(hh:A.handled=none)(F:FS t env own sl me)(V:t.V v x){tg0:ji}{pt:Expr}{tg:Slots}(ht:c7 tg0 pt=some tg)(hk:∀p∈tg,sl.lookup p.1=some p.2/\oq env own p.1)
  (e:gq me tg0 x=some me') {Q:Unit->Shared->Prop} (q:zj t env own sl me' Q):wpAny (model Ω.prog Ω.w) A (assign pt env v) Q E s:=by
 cases tg0 with
 | v i=>
  obtain ⟨⟨id,p,rfl⟩,e1,e2⟩:=Option.bind_eq_some_iff.mp (show (Option.bind _ _)=some tg from ht)
  have k:=hk (id,i) (ay e2▸aF)
  exact wpAny_assign_Name (F.store k.1 k.2 V (ay e▸q))
 | tup is=>
  obtain ⟨⟨es,k,p,rfl⟩,e1,ht⟩:=Option.bind_eq_some_iff.mp (show (Option.bind _ _)=some tg from ht)
  have T:=CI is ht
  have seq:∀xs,(x= .list xs\/x= .tup xs)->bindL me is xs=some me'->wpAny (model Ω.prog Ω.w) A (assign (.Tuple es k p) env v) Q E s:=λxs hx e=>iJ (m:=some _) e λhl hm=>by
   rw [arm_assign_Tuple]
   refine wpAny_bind (wpAny_standAt ?_)
   unfold unpack
   rw [(T.each (env:=env)).1,(T.each (env:=env)).2,T.len,jM hl]
   refine wpAny_bind (wpAny_holding (Cy hh t V hx λvs h' tk W k=>?_))
   exact T.seq (F.grow k tk) W (jM hl) hk λs1 t1 l1 u1 e1 F1=>q s1 t1 (Wl.pS.trans l1) u1 (λb o n e=>e1 b o n (k b o e)) (ay hm▸F1)
  exact mv e (λxs ex e=>seq xs (.inr ex) e) λe=>oC e (λxs ex e=>seq xs (.inl ex) e) aA
end
section
variable{β γ:Type}
theorem ez(n:PySem.Str)(b:β)(r:List (PySem.Str×β)):((n,b)::r).lookup n=some b:=by rw [List.lookup_cons,beq_self_eq_true]
theorem ij{n n':PySem.Str}(e:n≠n')(b:β)(r:List (PySem.Str×β)):((n',b)::r).lookup n=r.lookup n:=by rw [List.lookup_cons,beq_eq_false_iff_ne.mpr e]
theorem lookup_mem{n:PySem.Str}{b:β}(l:List (PySem.Str×β)):l.lookup n=some b->(n,b)∈l:=List.rec (motive:=λl=>l.lookup n=some b->(n,b)∈l) (λh=>nomatch h) (λp r ih h=>by
 by_cases e:n=p.1
 ·rw [e]at h ⊢
  rw [ez]at h
  exact ay h▸aF
 ·rw [ij e p.2]at h;exact bB _ (ih h)) l
theorem mem_lookup{n:PySem.Str}{b:β}(l:List (PySem.Str×β)):(l.map (·.1)).Nodup->(n,b)∈l->l.lookup n=some b:=List.rec (motive:=λl=>(l.map (·.1)).Nodup->(n,b)∈l->l.lookup n=some b) (λ_ h=>nomatch h) (λp r ih nd h=>by
 have nd:=List.nodup_cons.mp nd
 rcases List.mem_cons.mp h with q | h
 ·rw [<-q];exact ez _ _ _
 ·rw [ij (λq=>nd.1 (List.mem_map.mpr ⟨(n,b),h,q⟩)) p.2];exact ih nd.2 h) l
theorem qA(f:PySem.Str->β->γ)(n:PySem.Str)(l:List (PySem.Str×β)):(l.map λp=>(p.1,f p.1 p.2)).lookup n=(l.lookup n).map (f n):=List.rec (motive:=λl=>(l.map λp=>(p.1,f p.1 p.2)).lookup n=(l.lookup n).map (f n)) rfl (λp r ih=>by
 by_cases e:n=p.1
 ·rw [e];show ((p.1,_)::_:List (PySem.Str×γ)).lookup p.1=(((p.1,p.2)::r).lookup p.1).map _;rw [ez,ez];rfl
 ·show ((p.1,_)::_:List (PySem.Str×γ)).lookup n=(((p.1,p.2)::r).lookup n).map _;rw [ij e,ij e,ih]) l
theorem qB{n:PySem.Str}(l r:List (PySem.Str×β)):(l++r).lookup n=(l.lookup n).or (r.lookup n):=List.rec (motive:=λl=>(l++r).lookup n=(l.lookup n).or (r.lookup n)) rfl (λp l ih=>by
 by_cases e:n=p.1
 ·rw [e];show ((p.1,p.2)::(l++r)).lookup p.1=(((p.1,p.2)::l).lookup p.1).or _;rw [ez,ez];rfl
 ·show ((p.1,p.2)::(l++r)).lookup n=(((p.1,p.2)::l).lookup n).or _;rw [ij e,ij e,ih]) l
theorem rW{n:PySem.Str}(q:PySem.Str->Bool)(l:List (PySem.Str×β)):(l.filter λp=>q p.1).lookup n=if q n=true then l.lookup n else none:=List.rec (motive:=λl=>(l.filter λp=>q p.1).lookup n=if q n=true then l.lookup n else none) (by split <;> rfl) (λp l ih=>by
 rw [List.filter_cons]
 by_cases e:n=p.1
 ·rw [e]at ih ⊢
  by_cases c:q p.1=true
  ·rw [if_pos c,if_pos c];show ((p.1,p.2)::_:List (PySem.Str×β)).lookup p.1=((p.1,p.2)::l).lookup p.1;rw [ez,ez]
  ·rw [if_neg c,ih,if_neg c,if_neg c]
 ·rw [show (p::l).lookup n=l.lookup n from ij e p.2 l,<-ih]
  by_cases c:q p.1=true
  ·rw [if_pos c];exact ij e p.2 _
  ·rw [if_neg c]) l
end
noncomputable def isFree:NameKind->Bool
 | .free=>true
 | _=>false
theorem lq(k:NameKind):(k== .free)=isFree k:=by cases k <;> rfl
noncomputable def iK(env:PySem.Env):bc->List (PySem.Str×Addr)->List (PySem.Str×Addr)
 | [],cs=>cs
 | p::r,cs=>iK env r (bif isFree p.2 then (p.1,(env.cells.lookup p.1).getD 0)::cs else cs)
theorem BQ{env:PySem.Env}(names:bc):∀cs:List (PySem.Str×Addr),(∀n,(n,NameKind.free)∈names->∃c,env.cells.lookup n=some c)->
  (forIn names cs (λ(x:PySem.Str×NameKind) (cs:List (PySem.Str×Addr))=>(if x.2== .free then do let a <-cellOf env x.1;pure (ForInStep.yield ((x.1,a)::cs))else pure (ForInStep.yield cs):Sem (ForInStep (List (PySem.Str×Addr))))):Sem (List (PySem.Str×Addr)))=pure (iK env names cs):=
 List.rec (motive:=λnames=>∀cs:List (PySem.Str×Addr),(∀n,(n,NameKind.free)∈names->∃c,env.cells.lookup n=some c)->
  (forIn names cs (λ(x:PySem.Str×NameKind) (cs:List (PySem.Str×Addr))=>(if x.2== .free then do let a <-cellOf env x.1;pure (ForInStep.yield ((x.1,a)::cs))else pure (ForInStep.yield cs):Sem (ForInStep (List (PySem.Str×Addr))))):Sem (List (PySem.Str×Addr)))=pure (iK env names cs)) (λcs _=>rfl) (λp r ih cs h=>by
  have ih:=λcs=>ih cs λn hn=>h n (bB _ hn)
  rw [List.forIn_cons]
  show _=pure (iK env r (bif isFree p.2 then (p.1,(env.cells.lookup p.1).getD 0)::cs else cs))
  rw [lq]
  cases c:isFree p.2 with
  | true=>
   obtain ⟨a,ha⟩:=h p.1 (by rw [show NameKind.free=p.2 from (eq_of_beq ((lq p.2).trans c)).symm];exact aF)
   have e:cellOf env p.1=pure a:=by unfold cellOf;rw [ha]
   rw [if_pos rfl,e,ha]
   exact ih _
  | false=>exact ih cs) names
theorem rZ{env:PySem.Env}{sc:Scope}(h:∀n,(n,NameKind.free)∈sc.names->∃c,env.cells.lookup n=some c):closureFor sc env=pure (iK env sc.names []):=by
 show (forIn sc.names [] _:Sem (List (PySem.Str×Addr))) >>=_=_
 exact (congrArg (· >>=_) (BQ (env:=env) sc.names [] h)).trans rfl
theorem wR{env:PySem.Env}{n:PySem.Str}{c:Addr}(hc:env.cells.lookup n=some c)(names:bc):∀cs:List (PySem.Str×Addr),(cs.lookup n=none\/cs.lookup n=some c)->((n,NameKind.free)∈names\/cs.lookup n=some c)->(iK env names cs).lookup n=some c:=
 List.rec (motive:=λnames=>∀cs:List (PySem.Str×Addr),(cs.lookup n=none\/cs.lookup n=some c)->((n,NameKind.free)∈names\/cs.lookup n=some c)->(iK env names cs).lookup n=some c) (λcs _ h2=>h2.elim (λh=>nomatch h) id) (λp r ih cs h1 h2=>by
  show (iK env r (bif isFree p.2 then (p.1,(env.cells.lookup p.1).getD 0)::cs else cs)).lookup n=_
  cases f:isFree p.2 with
  | true=>
   by_cases e:n=p.1
   ·have k:((p.1,(env.cells.lookup p.1).getD 0)::cs).lookup n=some c:=by rw [<-e,ez,hc];rfl
    exact ih _ (.inr k) (.inr k)
   ·have k:=ij e ((env.cells.lookup p.1).getD 0) cs
    exact ih _ (k▸h1) (h2.elim (λh=>(List.mem_cons.mp h).elim (λq=>absurd (congrArg Prod.fst q) e) .inl) λh=>.inr (k▸h))
  | false=>exact ih cs h1 (h2.imp_left λh=>(List.mem_cons.mp h).elim (λq=>by rw [<-q]at f;cases f) id)) names
theorem Fd{env:PySem.Env}{n:PySem.Str}{c:Addr}(names:bc):∀cs:List (PySem.Str×Addr),(iK env names cs).lookup n=some c->(n,NameKind.free)∈names\/cs.lookup n=some c:=
 List.rec (motive:=λnames=>∀cs:List (PySem.Str×Addr),(iK env names cs).lookup n=some c->(n,NameKind.free)∈names\/cs.lookup n=some c) (λcs h=>.inr h) (λp r ih cs h=>by
  have h:(iK env r (bif isFree p.2 then (p.1,(env.cells.lookup p.1).getD 0)::cs else cs)).lookup n=some c:=h
  refine (ih _ h).elim (λh=>.inl (bB _ h)) λh=>?_
  cases f:isFree p.2 with
  | true=>
   by_cases e:n=p.1
   ·rw [e,show NameKind.free=p.2 from (eq_of_beq ((lq p.2).trans f)).symm];exact .inl aF
   ·rw [f]at h;exact .inr ((ij e ((env.cells.lookup p.1).getD 0) cs).symm.trans h)
  | false=>rw [f]at h;exact .inr h) names
noncomputable def GX(ns:bc)(n:PySem.Str)(k:NameKind):NameKind:=bif isFree k&&dS (eQ ns n) 1 then .cell else k
noncomputable def d7(ns:bc)(l:bc):bc:=l.map λp=>(p.1,GX ns p.1 p.2)
theorem HT(o:Option NameKind):dS o 1=(o==some .cell):=by
 cases o with
 | none=>rfl
 | some k=>cases k <;> rfl
theorem iG{env:PySem.Env}{sc:Scope}{ns:bc}(hk:env.scope.kind= .function)(en:env.scope.names=ns):(relabel sc env).names=d7 ns sc.names:=by
 show sc.names.map _=sc.names.map _
 refine List.map_congr_left λp _=>?_
 show (if (p.2== .free&&env.scope.kind== .function&&env.kindOf p.1==some .cell)=true then (p.1,NameKind.cell)else (p.1,p.2))=(p.1,bif isFree p.2&&dS (eQ ns p.1) 1 then .cell else p.2)
 rw [hk,beq_self_eq_true,Bool.and_true,lq,HT,eP,<-en]
 show (if (isFree p.2&&env.kindOf p.1==some .cell)=true then _ else _)=(_,bif isFree p.2&&env.kindOf p.1==some .cell then _ else _)
 cases (isFree p.2&&env.kindOf p.1==some .cell) <;> rfl
noncomputable def bM(sl:Slots)(sc:bc)(tg:Slots):Slots:=tg++sl.filter λp=>dS (eQ sc p.1) 2
structure tE(ns:bc)(sl:Slots)(sc:Scope)(tg:Slots):Prop where
 kind:sc.kind= .function
 nd:(sc.names.map (·.1)).Nodup
 yh:∀p∈sc.names,p.2≠ .cell
 free:∀n,(n,NameKind.free)∈sc.names->ns.lookup n=some .cell
 Gq:∀p∈tg,sc.names.lookup p.1=some .local/\(p.1==("__debug__":PySem.Str))=false/\∀q∈sl,q.2≠p.2
 UB:(tg.map (·.1)).Nodup
 UA:(tg.map (·.2)).Nodup
noncomputable def JZ(ns:bc)(sl:Slots)(sc:Scope)(tg:Slots):Ck (tE ns sl sc tg):=
 .aH (decide (sc.kind= .function)) λe1=>.aH (mz (sc.names.map (·.1))) λe2=>.aH (sc.names.all λp=> !dS (some p.2) 1&&(!isFree p.2 ||dS (eQ ns p.1) 1)) λe3=>
 .aH (tg.all λp=>dS (eQ sc.names p.1) 0&&(!sEq p.1 "__debug__"&&sl.all λq=> !Nat.beq q.2 p.2)) λe4=>.aH (mz (tg.map (·.1))) λe5=>.aH (uc (tg.map (·.2))) λe6=>.y
 {kind:=of_decide_eq_true e1
  nd:=kZ _ e2
  yh:=λp hp q=>by have:=(mQ (List.all_eq_true.mp e3 p hp)).1;rw [q]at this;cases this
  free:=λn hn=>(eP ns n).symm.trans (Jv ((mQ (List.all_eq_true.mp e3 _ hn)).2))
  Gq:=λp hp=>have k:=mQ (List.all_eq_true.mp e4 p hp);have k2:=mQ k.2;⟨(eP sc.names p.1).symm.trans (Jw k.1),by rw [<-oB];exact oH k2.1,λq hq c=>by have:=oH (List.all_eq_true.mp k2.2 q hq);rw [c,Nat.beq_refl]at this;cases this⟩
  UB:=kZ _ e5
  UA:=A9 _ e6}
theorem fJ{sl:Slots}{sc:bc}{tg:Slots}{n:PySem.Str}{i:Nat}{P:Prop}(e:(bM sl sc tg).lookup n=some i)(p:tg.lookup n=some i->P)(q:sc.lookup n=some .free->sl.lookup n=some i->P):P:=by
 unfold bM at e
 rw [qB]at e
 cases k:tg.lookup n with
 | some j=>rw [k]at e;exact p (k.trans e)
 | none=>
  rw [k]at e
  have e:(sl.filter λp=>dS (eQ sc p.1) 2).lookup n=some i:=e
  rw [rW λn=>dS (eQ sc n) 2]at e
  exact kH e λc e=>q ((eP sc n).symm.trans (PR c)) e
noncomputable abbrev sets(ps:List (Nat×aa))(m:Mn.Env):Mn.Env:=ps.foldl (λe p=>e.set p.1 p.2) m
theorem De{i:Nat}{y:aa}(ps:List (Nat×aa)):∀m:Mn.Env,i∈ps.map (·.1)->sets ps (m.set i y)=sets ps m:=List.rec (motive:=λps=>∀m:Mn.Env,i∈ps.map (·.1)->sets ps (m.set i y)=sets ps m) (λ_ h=>nomatch h) (λp ps ih m h=>by
 show sets ps ((m.set i y).set p.1 p.2)=sets ps (m.set p.1 p.2)
 by_cases c:i=p.1
 ·rw [c,List.set_set]
 ·rw [List.set_comm _ _ c,ih (m.set p.1 p.2) ((List.mem_cons.mp h).elim (λq=>absurd q c) id)]) ps
noncomputable def AI(is:List Nat)(m1 m2:Mn.Env):Prop:=∀ps:List (Nat×aa),(∀j∈is,j∈ps.map (·.1))->sets ps m1=sets ps m2
theorem AI.sets{is:List Nat}(qs:List (Nat×aa)):∀m:Mn.Env,(∀q∈qs,q.1∈is)->AI is (Mn.sets qs m) m:=List.rec (motive:=λqs=>∀m:Mn.Env,(∀q∈qs,q.1∈is)->AI is (Mn.sets qs m) m) (λ_ _ _ _=>rfl) (λq qs ih m h ps hp=>
 (ih (m.set q.1 q.2) (λp hp=>h p (bB _ hp)) ps hp).trans (De ps m (hp _ (h q aF)))) qs
noncomputable def xK:ji->List Nat
 | .v i=>[i]
 | .tup is=>is
theorem wY{m:Mn.Env}{is:List Nat}{xs:List aa}{m':Mn.Env}{P:Prop}(e:bindL m is xs=some m')(p:is.length=xs.length->sets (is.zip xs) m=m'->P):P:=iJ (m:=some _) e λh e=>p (jM h) (ay e)
theorem BW{t:ji}{m1 m2 me':Mn.Env}{x:aa}(h:AI (xK t) m1 m2)(e:gq m2 t x=some me'):gq m1 t x=some me':=by
 cases t with
 | v i=>exact (congrArg some (h [(i,x)] λj hj=>hj)).trans e
 | tup is=>
  have key:∀{xs:List aa},bindL m2 is xs=some me'->bindL m1 is xs=some me':=λ{xs} e=>wY e λhl k=>by
   unfold bindL
   rw [hl,Nat.beq_refl]
   exact congrArg some ((h _ λj hj=>by rw [List.map_fst_zip (Nat.le_of_eq hl)];exact hj).trans k)
  exact mv e (λxs ex e=>by rw [ex];exact key e) λe=>oC e (λxs ex e=>by rw [ex];exact key e) aA
theorem BV{t:ji}{me me':Mn.Env}{x:aa}(e:gq me t x=some me'):AI (xK t) me' me:=by
 cases t with
 | v i=>exact ay e▸AI.sets [(i,x)] me λq hq=>List.mem_singleton.mp hq▸aF
 | tup is=>
  have key:∀{xs:List aa},bindL me is xs=some me'->AI is me' me:=λ{xs} e=>wY e λhl k=>k▸AI.sets _ me λp hp=>(List.of_mem_zip hp).1
  exact mv e (λxs ex e=>key e) λe=>oC e (λxs ex e=>key e) aA
theorem AI.trans{is:List Nat}{m1 m2 m3:Mn.Env}(a:AI is m1 m2)(b:AI is m2 m3):AI is m1 m3:=λps h=>(a ps h).trans (b ps h)
theorem xy.snd{is:List Nat}{es:List Expr}{tg:Slots}(t:xy is es tg):tg.map (·.2)=is:=xy.rec (motive:=λis es tg _=>tg.map (·.2)=is) rfl (λ_ e=>congrArg _ e) t
theorem Gw{t:ji}{pt:Expr}{tg:Slots}(e:c7 t pt=some tg):tg.map (·.2)=xK t:=by
 cases t with
 | v i=>obtain ⟨id,e1,e2⟩:=Option.bind_eq_some_iff.mp (show (Option.bind _ _)=some tg from e);exact ay e2▸rfl
 | tup is=>obtain ⟨es,e1,e2⟩:=Option.bind_eq_some_iff.mp (show (Option.bind _ _)=some tg from e);exact (CI is e2).snd
section
variable{Ω:Cx}{Φ Φ' Kp Kp':Facts}{σ σ':Sg}{hp hp':Hp}{h h':Heap}{s s':Shared}{A:Around}{v u:Value}{x y z:aa}{α β γ δ:Type}{t:Wl Ω Kp hp s}{w w1 w2:Tr β}{R:Rl β α}{R':Rl δ γ}{b c:Bool}{a:Addr}{m n:HM α}
variable{C:jj}{ns:bc}{sl:Slots}{env:PySem.Env}{me me':Mn.Env}{pa pb pc:Expr}{ma mb mc:ME}{pos:Pos}{d:Nat}{own as:List Addr}{E:Value->Shared->Prop}
noncomputable abbrev IV(tg:Slots)(m:Mn.Env):Mn.Env:=sets (tg.map λp=>(p.2,.undef)) m
theorem GN{i:Nat}(ps:List (Nat×aa)):∀m:Mn.Env,(∀p∈ps,p.1≠i)->(sets ps m)[i]?=m[i]?:=List.rec (motive:=λps:List (Nat×aa)=>∀m:Mn.Env,(∀p:Nat×aa,p∈ps->p.1≠i)->(sets ps m)[i]?=m[i]?) (λ_ _=>rfl) (λp ps ih m h=>
 (ih (m.set p.1 p.2) λq hq=>h q (bB _ hq)).trans (List.getElem?_set_ne (h p aF))) ps
theorem AX{i:Nat}{y:aa}(ps:List (Nat×aa)):∀m:Mn.Env,(∀p∈ps,p.2= .undef)->(i∈ps.map (·.1)\/∀y,m[i]?=some y->y= .undef)->(sets ps m)[i]?=some y->y= .undef:=
 List.rec (motive:=λps=>∀m:Mn.Env,(∀p∈ps,p.2= .undef)->(i∈ps.map (·.1)\/∀y,m[i]?=some y->y= .undef)->(sets ps m)[i]?=some y->y= .undef) (λm _ h e=>h.elim (λh=>nomatch h) λh=>h y e) (λp ps ih m hu h e=>by
  refine ih (m.set p.1 p.2) (λq hq=>hu q (bB _ hq)) ?_ e
  by_cases c:p.1=i
  ·exact .inr λy hy=>(xU (c▸hy)).trans (hu p aF)
  ·exact h.elim (λh=>(List.mem_cons.mp h).elim (λq=>absurd q.symm c) .inl) λh=>.inr λy hy=>h y ((List.getElem?_set_ne c).symm.trans hy)) ps
theorem ug{tg:Slots}{n:PySem.Str}{i:Nat}(h:(n,i)∈tg):i∈tg.map (·.2):=List.mem_map.mpr ⟨_,h,rfl⟩
theorem LA{n n':PySem.Str}{i:Nat}(l:Slots):(l.map (·.2)).Nodup->(n,i)∈l->(n',i)∈l->n=n':=List.rec (motive:=λl=>(l.map (·.2)).Nodup->(n,i)∈l->(n',i)∈l->n=n') (λ_ h=>nomatch h) (λp l ih nd a b=>
 have nd:=List.nodup_cons.mp nd
 (List.mem_cons.mp a).elim (λa=>(List.mem_cons.mp b).elim (λb=>(congrArg Prod.fst a).trans (congrArg Prod.fst b).symm) λb=>absurd (show p.2∈l.map (·.2)from (show i=p.2 from congrArg Prod.snd a)▸ug b) nd.1) λa=>(List.mem_cons.mp b).elim (λb=>absurd (show p.2∈l.map (·.2)from (show i=p.2 from congrArg Prod.snd b)▸ug a) nd.1) λb=>ih nd.2 a b) l
theorem FS.comp{sc:Scope}{tg:Slots}{Cn:Addr}(k:tE ns sl sc tg)(F:Fr t env ns sl me)(hC:s.heap.Ns Cn λ_=>none)(f:Un t.Φ Kp t.σ hp Cn):FS t (compEnvC sc (iK env sc.names []) Cn env) [Cn] (bM sl sc.names tg) (IV tg me):=by
 have kindOf:∀n,(compEnvC sc (iK env sc.names []) Cn env).kindOf n=(sc.names.lookup n).map (GX ns n):=λn=>by
  show List.lookup n (relabel sc env).names=_
  rw [iG F.R.fn F.en];exact qA (GX ns) n sc.names
 have free:∀{n},sc.names.lookup n=some .free->(compEnvC sc (iK env sc.names []) Cn env).kindOf n=some .cell/\env.kindOf n=some .cell:=λ{n} e=>by
  have hc:=k.free n (lookup_mem _ e)
  refine ⟨?_,by show env.scope.names.lookup n=_;rw [F.en];exact hc⟩
  rw [kindOf,e]
  show some (bif dS (eQ ns n) 1 then _ else _)=_
  rw [eP,hc];rfl
 have cell:∀{n},(compEnvC sc (iK env sc.names []) Cn env).kindOf n=some .cell->sc.names.lookup n=some .free:=λ{n} e=>by
  rw [kindOf]at e
  obtain ⟨j,e1,e2⟩:=Option.map_eq_some_iff.mp e
  cases j with
  | free=>exact e1
  | cell=>exact absurd rfl (k.yh _ (lookup_mem _ e1))
  | _=>cases e2
 have cells:∀{n},sc.names.lookup n=some .free->∃c o v,env.cells.lookup n=some c/\(iK env sc.names []).lookup n=some c/\Kp c o/\o.data= .cell v:=λ{n} e=>by
  obtain ⟨c,o,v,k1,k2,k3⟩:=F.R.cells n (free e).2
  exact ⟨c,o,v,k1,wR k1 _ _ (.inl rfl) (.inl (lookup_mem _ e)),k2,k3⟩
 obtain ⟨cm,hcm⟩:=Classical.axiomOfChoice (α:=PySem.Str) (β:=λ_=>Option Value) (r:=λn w=>∀c o,(iK env sc.names []).lookup n=some c->Kp c o->sc.names.lookup n=some .free->o.data= .cell w) λn=>by
  by_cases e:sc.names.lookup n=some .free
  ·obtain ⟨c,o,v,k1,k2,k3,k4⟩:=cells e
   refine ⟨v,λc' o' q1 q2 _=>?_⟩
   have q:=t.S.kp _ _ q2
   rw [ay (q1.symm.trans k2)]at q
   exact ay ((t.S.kp _ _ k3).symm.trans q)▸k4
  ·exact ⟨none,λ_ _ _ _ q=>absurd q e⟩
 refine ⟨λb hb=>List.mem_singleton.mp hb▸f,jN _,k.kind,F.R.gl,F.R.bl,λn i e=>fJ e (λe=>(k.Gq _ (lookup_mem _ e)).2.1) λ_ e=>F.R.QL n i e,λn n' i e e'=>?_,λn n' c hc e e'=>?_,λb hb=>?_,λ_=>none,cm,hC,λn e=>?_,λn i x e1 e2 e3=>?_⟩
 ·refine fJ e (λe=>fJ e' (λe'=>LA tg k.UA (lookup_mem _ e) (lookup_mem _ e')) λ_ e'=>?_) λ_ e=>fJ e' (λe'=>?_) λ_ e'=>F.R.inj n n' i e e'
  ·exact absurd rfl ((k.Gq (n,i) (lookup_mem _ e)).2.2 (n',i) (lookup_mem _ e'))
  ·exact absurd rfl ((k.Gq (n',i) (lookup_mem _ e')).2.2 (n,i) (lookup_mem _ e))
 ·refine (Fd _ _ e).elim (λhm=>?_) λhm=>nomatch hm
  obtain ⟨c',o,v,k1,k2,k3,k4⟩:=cells (mem_lookup _ k.nd hm)
  exact absurd ⟨o,List.mem_singleton.mp hc▸ay (k2.symm.trans e)▸k3⟩ f.2.1
 ·exact List.mem_singleton.mp hb▸hC.imp λo q=>q.elim λ_ q=>q.elim λ_ q=>q.1
 ·have e:=cell e
  obtain ⟨c,o,v,k1,k2,k3,k4⟩:=cells e
  exact ⟨c,o,k2,t.S.kp _ _ k3,hcm n c o k2 k3 e,.inr k3⟩
 ·refine fJ e1 (λe=>absurd (AX _ me (λp hp=>(List.mem_map.mp hp).elim λq k=>k.2▸rfl) (.inl (by rw [List.map_map];exact ug (lookup_mem _ e))) e2) e3) λef e=>?_
  have hm:=lookup_mem _ e
  rw [GN _ me λp hp=>(List.mem_map.mp hp).elim λq j=>j.2▸λc=>(k.Gq q j.1).2.2 _ hm c.symm]at e2
  obtain ⟨m,_,hv⟩:=F.R.vars
  obtain ⟨v,r,kk⟩:=hv n i x e e2 e3
  refine ⟨v,r,.inr ⟨(free ef).1,kk.elim (λq=>?_) λ⟨q1,c,o,q2,q3,q4⟩=>?_⟩⟩
  ·have q:=q.1;rw [(free ef).2]at q;cases q
  ·have:=hcm n c o (wR q2 sc.names [] (.inl rfl) (.inl (lookup_mem _ ef))) q3 ef
   rw [q4]at this
   exact (Data.cell.inj this).symm
variable(Ω A C ns sl)in
inductive pE:Option ME->List Expr->Prop
 | none:pE none []
 | some {e pe}:TS Ω A C ns sl e pe->pE (some e) [pe]
noncomputable abbrev Nz(Ω:Cx)(A:Around)(ifs:List Expr)(env:PySem.Env):Tr Bool:=Wp Ω A (forIn ifs true λc r=>if r=true then do let ok <-isTrue c env (eval c env);pure (ForInStep.yield ok)else pure (ForInStep.yield r))
theorem Gx{test:Option ME}{ifs:List Expr}(ht:pE Ω A C ns sl test ifs)(F:Fr t env ns sl me):ae t (MB Ω.P C test me) (Nz Ω A ifs env) RB:=by
 cases ht with
 | none=>exact ae.val λq=>wpAny_tests_nil (q _ _ rfl)
 | some h=>exact ae.wp wpAny_tests_one (h F)
noncomputable def su(P:Pg)(C:jj)(t:ji)(test:Option ME)(elt:ME)(me:Mn.Env)(x:aa):HM (Option aa):=hY (gq me t x) λenv'=>aL (MB P C test env') λq=>gJ q (aL (ev P C elt env') λy=>aj (some y)) (aj none)
theorem zh{D:Addr}{vs:Array Value}{n:Nat}(e:s.heap.get? D=some ({cls:=.type "list",data:=.seq vs n}:Obj))(hs:vs.size<=sizeLine){Q:Value->Shared->Prop}
  (q:∀h' n',h'.get? D=some ({cls:=.type "list",data:=.seq (vs.push u) n'}:Obj)->Heap.SameBut D s.heap h'->Q .none {s with heap:=h'}):wpAny (model Ω.prog Ω.w) A (call (.builtin "list.append") [.ref D,u]) Q E s:=
 call_meets PySem.F.slot_list_append ⟨_,e,rfl⟩ PySem.F.entry_list_append (PySem.F.args_list_append_2 _ _) (list_append D vs n u hs) ⟨e,q _ _ (Heap.get?_update_self _ e rfl) (Heap.SameBut.update ..)⟩
end
section
variable{Ω:Cx}{Φ Φ' Kp Kp':Facts}{σ σ':Sg}{hp hp':Hp}{h h':Heap}{s s':Shared}{A:Around}{v u:Value}{x y z:aa}{α β γ δ:Type}{t:Wl Ω Kp hp s}{w w1 w2:Tr β}{R:Rl β α}{R':Rl δ γ}{b c:Bool}{a:Addr}{m n:HM α}
variable{C:jj}{ns:bc}{sl:Slots}{env:PySem.Env}{me me':Mn.Env}{pa pb pc:Expr}{ma mb mc:ME}{pos:Pos}{d:Nat}{own as:List Addr}{E:Value->Shared->Prop}
theorem pf{o:Option γ}{k:γ->HM α}{h:Hp}{r:α×Hp}{P:Prop}(e:hY o k h=some r)(p:∀a,o=some a->k a h=some r->P):P:=by
 cases o with
 | none=>cases e
 | some a=>exact p a rfl e
theorem EI{I:Addr}{xs:List aa}{At:Nat->Heap->Prop}(T:It Ω A Φ σ I xs At){i:Nat}{tg0:ji}{pt:Expr}{tg:Slots}(ht:c7 tg0 pt=some tg)(a:At i s.heap){Q:Unit->Shared->Prop}(q:Q () s):wpAny (model Ω.prog Ω.w) A (letOwnedTupleGo pt (.ref I) v) Q E s:=by
 cases tg0 with
 | v i=>obtain ⟨⟨id,p,rfl⟩,e1,e2⟩:=Option.bind_eq_some_iff.mp (show (Option.bind _ _)=some tg from ht);exact wpAny_pure q
 | tup is=>obtain ⟨⟨es,k,p,rfl⟩,e1,e2⟩:=Option.bind_eq_some_iff.mp (show (Option.bind _ _)=some tg from ht);exact T.go a q
theorem Gk{p:Addr->Prop}{I D:Addr}(h1:p I)(h2:p D):∀b∈[I,D],p b:=λb hb=>(List.mem_cons.mp hb).elim (λq=>q▸h1) λq=>List.mem_singleton.mp q▸h2
inductive Lp(t1:Wl Ω Kp hp s)(F:aa->HM (Option aa))(cenv:PySem.Env)(slc:Slots)(is:List Nat)(me:Mn.Env)(I D:Addr)(xs ys:List aa)(hE:Hp)(At:Nat->Heap->Prop)(i:Nat)(s':Shared):Prop
 | mk (hle:i<=xs.length) (hi:Hp) (ti:Wl Ω Kp hi s') (mei:Mn.Env) (vs:Array Value) (n:Nat) (ysd ysr:List aa) (l:t1.le ti) (f:FS ti cenv [cenv.locals] slc mei) (ag:AI is mei me) (at_:At i s'.heap) (hD:s'.heap.get? D=some ({cls:=.type "list",data:=.seq vs n}:Obj))
  (V:fT Ω ti.Φ ti.σ vs.toList ysd) (hc:dy F (xs.drop i) hi=some (ysr,hE)) (hy:ysd++ysr=ys) (fI:Un ti.Φ Kp ti.σ hi I) (fD:Un ti.Φ Kp ti.σ hi D) (hs:vs.size<=i):Lp t1 F cenv slc is me I D xs ys hE At i s'
theorem BM(hr:lF d A){tg0:ji}{test:Option ME}{elt:ME}{ptg piter pelt:Expr}{ifs:List Expr}{sc:Scope}{cenv:PySem.Env}{slc:Slots}{tg:Slots}{ns':bc}
  (htg:c7 tg0 ptg=some tg) (hst:∀p∈tg,slc.lookup p.1=some p.2/\cenv.kindOf p.1=some .local) (en:cenv.scope.names=ns')
  (htest:pE Ω A C ns' slc test ifs) (helt:ES Ω A C ns' slc elt pelt)
  {I D:Addr} {xs ys:List aa} {hE:Hp} {At:Nat->Heap->Prop} {t1:Wl Ω Kp hp s} (T:It Ω A t1.Φ t1.σ I xs At) (hsm:xs.length < LF) (hIC:I≠cenv.locals) (hDC:D≠cenv.locals) (hID:I≠D)
  {R:Result->Shared->Prop} (hR:∀s',Lp t1 (su Ω.P C tg0 test elt me) cenv slc (xK tg0) me I D xs ys hE At xs.length s'->∀h' tk,(∀b o,b≠I->s'.heap.get? b=some o->h'.get? b=some o)->R (.ok .next) {s' with heap:=h',toks:=tk})
  {s':Shared} (hL:Lp t1 (su Ω.P C tg0 test elt me) cenv slc (xK tg0) me I D xs ys hE At 0 s'):
  codeAny (model Ω.prog Ω.w) A (.compLoop (.ListComp pelt [⟨ptg,piter,ifs,0⟩] sc pos) 0 (.ref I) (.ref D) cenv) R s':=by
 refine codeAny_loop rfl (λn s'=>∃i,n=xs.length + 1 - i/\Lp t1 (su Ω.P C tg0 test elt me) cenv slc (xK tg0) me I D xs ys hE At i s') (λn s' hI=>?_) (xs.length + 1) ⟨0,rfl,hL⟩
 obtain ⟨i,rfl,L⟩:=hI
 show wpAny _ A ((compTurn (.ListComp pelt [⟨ptg,piter,ifs,0⟩] sc pos) 0 (.ref I) (.ref D) cenv).onRaise (λx=>do noteFrame x cenv;theTreesLotGoes x)) _ _ s'
 refine wpAny_noted ?_
 rw [compTurn_list]
 obtain ⟨hle,hi,ti,mei,vs,n,ysd,ysr,l1,F,ag,at_,hD,V,hc,hy,fI,fD,hsz⟩:=id L
 refine wpAny_bind (wpAny_standAt (wpAny_bind ?_))
 have nI:I∉[cenv.locals]:=λq=>hIC (List.mem_singleton.mp q)
 have nD:D∉[cenv.locals]:=λq=>hDC (List.mem_singleton.mp q)
 by_cases hlt:i < xs.length
 ·
  refine T.item (List.getElem?_eq_getElem hlt) at_ λv h2 tk2 rv at2 k2=>?_
  have F2:=F.turn fI nI k2 tk2
  have hD2:=k2 _ _ (Ne.symm hID) hD
  refine wpAny_bind (EI T htg at2 ?_)
  rw [List.drop_eq_getElem_cons hlt]at hc
  refine ed hc λr h3 e3 hc=>ed hc λys3 h4 e4 hc=>pf e3 λme3 e5 e3=>ed e3 λq h5 e6 e3=>?_
  obtain ⟨eys,rfl⟩:=Prod.mk.inj (ay (show some (oS r (λy=>y::ys3) ys3,h4)=some (ysr,hE)from hc))
  refine wpAny_bind (rJ hr.1 F2 (l1.V rv) htg (λp hp=>⟨(hst p hp).1,.inl (hst p hp).2⟩) (BW ag e5) λs3 t3 l3 u3 k3 F3=>?_)
  have hD3:=k3 _ _ nD hD2
  have at3:At (i + 1) s3.heap:=T.frame at2 (λb o e=>(ti.turn fI k2 tk2).S.fz b o (l1.l _ _ e)) (λb o e=>t3.S.fz b o (l3.l _ _ (l1.l _ _ e))) λo e=>k3 _ o nI e
  obtain ⟨oI,hI3⟩:=T.there at3
  have l13:t1.le t3:=l1.trans (Wl.fw.trans l3)
  have un3:=Gk (u3 I fI) (u3 D fD)
  have Fr3:=F3.fr (as:=[I,D]) en (eu F3.free un3)
  have hsz':vs.size<=sizeLine:=ai hsz (ai (Nat.le_of_lt hlt) (ai (Nat.le_of_lt hsm) pF))
  have fin:xs.length + 1 - (i + 1) < xs.length + 1 - i:=by omega
  have go:∀{s6 h6 vs6 n6 ysd6} {t6:Wl Ω Kp h6 s6},t3.le t6->FS t6 cenv [cenv.locals] slc me3->At (i + 1) s6.heap->s6.heap.get? D=some ({cls:=.type "list",data:=.seq vs6 n6}:Obj)->fT Ω t6.Φ t6.σ vs6.toList ysd6->
    dy (su Ω.P C tg0 test elt me) (xs.drop (i + 1)) h6=some (ys3,h4)->ysd6++ys3=ys->Un t6.Φ Kp t6.σ h6 I->Un t6.Φ Kp t6.σ h6 D->vs6.size<=i + 1->Lp t1 (su Ω.P C tg0 test elt me) cenv slc (xK tg0) me I D xs ys h4 At (i + 1) s6:=
   λl F a1 a2 a3 a4 a5 a6 a7 a8=>⟨hlt,_,_,me3,_,_,_,_,l13.trans l,F,BV e5,a1,a2,a3,a4,a5,a6,a7,a8⟩
  have stay:∀{s6:Shared} {h6} {t6:Wl Ω Kp h6 s6},t3.le t6->(∀o,s3.heap.get? I=some o->s6.heap.get? I=some o)->At (i + 1) s6.heap:=λ{s6 h6 t6} l k=>T.frame at3 (λb o e=>t3.S.fz b o (l13.l _ _ e)) (λb o e=>t6.S.fz b o (l.l _ _ (l13.l _ _ e))) k
  refine wpAny_bind (Gx htest Fr3 q h5 e6 _ _ λq' s5 t5 l5 eq5=>?_)
  obtain rfl:q'=q:=eq5
  cases q' with
  | false=>
   obtain ⟨rfl,rfl⟩:=Prod.mk.inj (ay (show some ((none:Option aa),h5)=some (r,h3)from e3))
   obtain ⟨F5,k5⟩:=F3.back (fa:=un3) t5 ⟨l5.d,l5.l,l5.r⟩
   have kD:=k5 D (bB _ (jN _)) _ hD3
   have kI:=k5 I aF
   exact wpAny_pure ⟨rfl,_,fin,i + 1,rfl,go (t6:=t5.weak Facts.bQ) ⟨l5.d,l5.l,l5.r⟩ F5 (stay (t6:=t5.weak Facts.bQ) ⟨l5.d,l5.l,l5.r⟩ λo e=>(kI o e).1) kD.1 (fT.up V (Wl.fw.trans l3 |>.l |>.trans l5.l) (Wl.fw.trans l3 |>.r |>.trans l5.r)) e4 (by rw [<-eys]at hy;exact hy) (kI _ hI3).2 kD.2 (Nat.le_succ_of_le hsz)⟩
  | true=>
   refine ed (show aL (ev Ω.P C elt me3) (λy=>aj (some y)) h5=some (r,h3)from e3) λy h6 e7 e8=>?_
   obtain ⟨rfl,rfl⟩:=Prod.mk.inj (ay (show some (some y,h6)=some (r,h3)from e8))
   refine wpAny_bind (wpAny_bind (helt (Fr3.le l5) y h6 e7 _ _ λu s6 t6 l6 V6=>?_))
   obtain ⟨F6,k6⟩:=F3.back (fa:=un3) t6 ⟨l5.d.trans l6.d,l5.l.trans l6.l,l5.r.trans l6.r⟩
   have kD:=k6 D (bB _ (jN _)) _ hD3
   have kI:=k6 I aF
   refine wpAny_bind (zh kD.1 hsz' λh7 n7 hD7 k7=>wpAny_pure (wpAny_pure ⟨rfl,_,fin,i + 1,rfl,?_⟩))
   have l36:t3.le ((t6.weak Facts.bQ).turn kD.2 (λb o=>k7.extBut b o) s6.toks):=Wl.le.trans ⟨l5.d.trans l6.d,l5.l.trans l6.l,l5.r.trans l6.r⟩ Wl.fw
   refine go l36 (F6.turn kD.2 nD (λb o=>k7.extBut b o) s6.toks) (stay l36 λo e=>k7.extBut I o hID (kI o e).1) hD7 ?_ e4 ((cL ysd [y] ys3).trans (by rw [<-eys]at hy;exact hy)) (kI _ hI3).2 kD.2 (by rw [Array.size_push];exact ee hsz)
   rw [Array.toList_push]
   exact (fT.up V (Wl.fw.trans l3 |>.l |>.trans (l5.l.trans l6.l)) (Wl.fw.trans l3 |>.r |>.trans (l5.r.trans l6.r))).append (.cons V6 .nil)
 ·
  obtain rfl:i=xs.length:=Nat.le_antisymm hle (Nat.not_lt.mp hlt)
  exact T.done at_ λh2 tk2 k2=>wpAny_pure (hR s' L h2 tk2 k2)
end
noncomputable def mw:Expr->Bool
 | .Set _ _ _=>false
 | _=>true
section
variable{Ω:Cx}{Φ Φ' Kp Kp':Facts}{σ σ':Sg}{hp hp':Hp}{h h':Heap}{s s':Shared}{A:Around}{v u:Value}{x y z:aa}{α β γ δ:Type}{t:Wl Ω Kp hp s}{w w1 w2:Tr β}{R:Rl β α}{R':Rl δ γ}{b c:Bool}{a:Addr}{m n:HM α}
variable{C:jj}{ns:bc}{sl:Slots}{env:PySem.Env}{me me':Mn.Env}{pa pb pc:Expr}{ma mb mc:ME}{pos:Pos}{d:Nat}{own as:List Addr}{E:Value->Shared->Prop}
theorem OO{k:Nat}{m:HM α}{h:Hp}{r:α×Hp}{P:Prop}(e:sm k m h=some r)(p:k < LF->m h=some r->P):P:=JP e λc e=>p (of_decide_eq_true c) e
theorem rr(hr:lF d A){tg0:ji}{it:ME}{test:Option ME}{elt:ME}{ptg piter pelt:Expr}{ifs:List Expr}{sc:Scope}{tg:Slots}
  (hit:ES Ω A C ns sl it piter) (htg:c7 tg0 ptg=some tg) (hk:tE ns sl sc tg)
  (htest:pE Ω A C (d7 ns sc.names) (bM sl sc.names tg) test ifs) (helt:ES Ω A C (d7 ns sc.names) (bM sl sc.names tg) elt pelt)
  (F:Fr t env ns sl me) {m:Mode} {z:aa} (e:ev Ω.P C (.comp m tg0 it test elt) me hp=some (z,hp')) {RR:Value->Addr->Result->Shared->Prop}
  (q:∀D Cn s5 hE (t5:Wl Ω Kp hE s5) vs n ys,t.le t5->Un t5.Φ Kp t5.σ hE Cn->Un t5.Φ Kp t5.σ hE D->D≠Cn->(∃m,s5.heap.Ns Cn m)->s5.heap.get? D=some ({cls:=.type "list",data:=.seq vs n}:Obj)->
   fT Ω t5.Φ t5.σ vs.toList ys->ju m (.list ys) hE=some (z,hp')->RR (.ref D) Cn (.ok .next) s5):
  wpAny (model Ω.prog Ω.w) A (eval piter env) (λx s₁=>wpAny (model Ω.prog Ω.w) A (pyIter x) (λit s₂=>wpAny (model Ω.prog Ω.w) A (newList []) (λacc s₃=>
   wpAny (model Ω.prog Ω.w) A (newFunctionEnv sc env.globals (iK env sc.names []) [] env.qual none .none (some env)) (λcenv s₄=>
    codeAny (model Ω.prog Ω.w) A (.compStart (.ListComp pelt [⟨ptg,piter,ifs,0⟩] sc pos) 0 it acc {cenv with scope:=relabel sc env}) (RR acc cenv.locals) s₄) E s₃) E s₂) E s₁) E s:=by
 refine ed e λv h1 e1 e=>pf e λxs e2 e=>OO e λe3 e=>ed (m:=dy (su Ω.P C tg0 test elt me) xs) e λys hE e4 e5=>?_
 refine hit F v h1 e1 E _ λxv s1 t1 l1 V1=>?_
 refine yw hr.1 t1 V1 e2 λI h2 At nI k2 at2 T=>?_
 obtain ⟨oI,hI2⟩:=T.there at2
 refine wpAny_newList ?_ (bP _)
 dsimp only
 refine wpAny_newFunctionEnv (λp hp=>hk.yh p hp) (λp hp=>nomatch hp) (λh4 n4 b4=>?_) hk.kind
 dsimp only at n4 b4 ⊢
 have hDn:=dc h2
 have hD3:(h2.push {cls:=.type "list",data:=.seq ([]:List Value).toArray}).get? h2.objs.size=some {cls:=.type "list",data:=.seq ([]:List Value).toArray}:=Heap.get?_push_size _ rfl
 have hCn:=dc (h2.push {cls:=.type "list",data:=.seq ([]:List Value).toArray})
 have k3:∀b o,h2.get? b=some o->(h2.push {cls:=.type "list",data:=.seq ([]:List Value).toArray}).get? b=some o:=λb o e=>Heap.get?_push_of_some _ e
 generalize h2.push {cls:=.type "list",data:=.seq ([]:List Value).toArray}=H3 at n4 b4 hD3 hCn k3 ⊢
 have k4:∀b o,H3.get? b=some o->h4.get? b=some o:=λb o e=>b4.extBut b o (λc=>c8 (c▸hCn) e) (Heap.get?_push_of_some _ e)
 have k14:∀b o,s1.heap.get? b=some o->h4.get? b=some o:=λb o e=>k4 b o (k3 b o (k2 b o e))
 have S2:=t1.S.ext k2
 have fI:=t1.S.ff nI
 have fD:=S2.ff hDn
 have fC:=(S2.ext k3).ff hCn
 have hIC:I≠H3.objs.size:=λc=>c8 hCn (c▸k3 _ _ hI2)
 have hDC:h2.objs.size≠H3.objs.size:=λc=>c8 hCn (c▸hD3)
 have hID:I≠h2.objs.size:=λc=>c8 hDn (c▸hI2)
 have t4:=t1.grow k14 (s1.toks + ([]:List (PySem.Str×Value)).length)
 have F4:FS (t1.grow k14 (s1.toks + ([]:List (PySem.Str×Value)).length)) (compEnvC sc (iK env sc.names []) H3.objs.size env) [H3.objs.size] (bM sl sc.names tg) (IV tg me):=FS.comp hk ((F.le l1).le Wl.pS) n4 fC
 have at4:At 0 h4:=T.frame at2 (λb o e=>S2.fz b o e) (λb o e=>k14 b o (t1.S.fz b o e)) λo e=>k4 _ _ (k3 _ _ e)
 have loop:codeAny (model Ω.prog Ω.w) A (.compLoop (.ListComp pelt [⟨ptg,piter,ifs,0⟩] sc pos) 0 (.ref I) (.ref h2.objs.size) (compEnvC sc (iK env sc.names []) H3.objs.size env)) (RR (.ref h2.objs.size) H3.objs.size) {s1 with heap:=h4,toks:=s1.toks + ([]:List (PySem.Str×Value)).length}:=by
  refine BM (hE:=hE) (ys:=ys) (me:=me) (slc:=bM sl sc.names tg) hr htg (λp hp=>⟨?_,?_⟩) (iG F.R.fn F.en) htest helt (t1:=t1) T e3 hIC hDC hID (λs' L h' tk kk=>?_)
   ⟨bP _,h1,t1.grow k14 _,_, #[],0,[],ys,Wl.pS,F4,Gw htg▸AI.sets _ me λq hq=>(List.mem_map.mp hq).elim λp k=>k.2▸List.mem_map.mpr ⟨p,k.1,rfl⟩,at4,k4 _ _ hD3,.nil,e4,rfl,fI,fD,aO _⟩
  ·unfold bM
   rw [qB,mem_lookup _ hk.UB hp];rfl
  ·show List.lookup p.1 (relabel sc env).names=_
   rw [iG F.R.fn F.en]
   exact (qA (GX ns) p.1 sc.names).trans (by rw [(hk.Gq p hp).1];rfl)
  ·obtain ⟨_,hi,ti,mei,vs,n,ysd,ysr,l2,F',ag,at_,hD,V,hc,hy,fI',fD',hsz⟩:=L
   rw [List.drop_length]at hc
   obtain ⟨rfl,rfl⟩:=Prod.mk.inj (ay (show some (([]:List aa),hi)=some (ysr,hE)from hc))
   rw [cY]at hy
   have F6:=F'.turn fI' (λq=>hIC (List.mem_singleton.mp q)) kk tk
   exact q _ _ _ _ (ti.turn fI' kk tk) vs n ys (l1.trans (l2.trans Wl.fw)) (F6.free _ (jN _)) fD' hDC (F6.vars.imp λm k=>k.elim λ_ k=>k.1) (kk _ _ (Ne.symm hID) hD) (hy▸V) e5
 exact codeAny_compStart_list loop (T.self at4 loop)
theorem oG{e:Expr}(h:mw e=true)(env:PySem.Env):∀x,foldedSetIterable e env x=pure x:=by
 intro x
 cases e <;> first | rfl | cases h
theorem BL{D Cn:Addr}{hE:Hp}{vs:Array Value}{n:Nat}{ys:List aa}{m:Mode}{h6:Heap}(t5:Wl Ω Kp hE s)(fC:Un t5.Φ Kp t5.σ hE Cn)(fD:Un t5.Φ Kp t5.σ hE D)(hDC:D≠Cn)(hD:s.heap.get? D=some ({cls:=.type "list",data:=.seq vs n}:Obj))(V:fT Ω t5.Φ t5.σ vs.toList ys)
  (e:ju m (.list ys) hE=some (z,hp')) (b6:Heap.SameBut Cn s.heap h6) (tk:Nat):∃t':Wl Ω Kp hp' {s with heap:=h6,toks:=tk},t5.le t'/\t'.V (.ref D) z:=
 (St.make (t5.S.extBut b6.extBut fC.1 fC.2.1 fC.2.2) fD (.list (b6.extBut D _ hDC hD) V) e).elim λΦ' k=>k.elim λσ' k=>⟨⟨Φ',σ',t5.B,t5.g.trans k.1,k.2.2.1⟩,⟨⟨h6,tk,rfl⟩,k.1,k.2.1⟩,k.2.2.2⟩
theorem ru{sc:Scope}{tg:Slots}(hk:tE ns sl sc tg)(F:Fr t env ns sl me):closureFor sc env=pure (iK env sc.names []):=rZ λn hn=>
 (F.R.cells n (by show env.scope.names.lookup n=_;rw [F.en];exact hk.free n hn)).imp λc k=>k.elim λo k=>k.elim λv k=>k.1
theorem tm(hr:lF d A){m:Mode}{tg0:ji}{it:ME}{test:Option ME}{elt:ME}{ptg piter pelt:Expr}{ifs:List Expr}{sc:Scope}{tg:Slots}
  (hit:ES Ω A C ns sl it piter) (NV:mw piter=true) (htg:c7 tg0 ptg=some tg) (hk:tE ns sl sc tg)
  (htest:pE Ω A C (d7 ns sc.names) (bM sl sc.names tg) test ifs) (helt:ES Ω A C (d7 ns sc.names) (bM sl sc.names tg) elt pelt):
  ES Ω A C ns sl (.comp m tg0 it test elt) (.ListComp pelt [⟨ptg,piter,ifs,0⟩] sc pos):=λ{env Kp hp s me t} F z hp' e E Q q=>by
 show wpAny (model Ω.prog Ω.w) A (eval (.ListComp pelt [⟨ptg,piter,ifs,0⟩] sc pos) env) Q E s
 rw [eval_ListComp]
 refine wpAny_comprehension_free (use:=none) rfl (oG NV env) (ru hk F) hk.kind (λp hp hl=>mem_lookup _ hk.nd (hl▸hp)) (rr hr hit htg hk htest helt F e λD Cn s5 hE t5 vs n ys l5 fC fD hDC hm hD V e5=>?_)
 obtain ⟨m',hm⟩:=hm
 exact ⟨m',hm,λh6 b6=>(BL t5 fC fD hDC hD V e5 b6 s5.toks).elim λt' k=>q _ _ t' (l5.trans k.1) k.2⟩
end
noncomputable def nt:Expr->Bool
 | .ListComp _ _ _ _=>false
 | .SetComp _ _ _ _=>false
 | .DictComp _ _ _ _ _=>false
 | _=>true
noncomputable def DM:Expr->Bool
 | .Tuple _ _ _=>false
 | _=>true
section
variable{Ω:Cx}{Φ Φ' Kp Kp':Facts}{σ σ':Sg}{hp hp':Hp}{h h':Heap}{s s':Shared}{A:Around}{v u:Value}{x y z:aa}{α β γ δ:Type}{t:Wl Ω Kp hp s}{w w':Tr β}{R:Rl β α}{R':Rl δ γ}{b c:Bool}{a:Addr}{m n:HM FE}
variable{C:jj}{ns:bc}{sl:Slots}{env:PySem.Env}{me me':Mn.Env}{pa pb pc:Expr}{ma mb mc:ME}{pos:Pos}{d:Nat}{own as:List Addr}{E:Value->Shared->Prop}
inductive Cr(Ω:Cx)(Φ:Facts)(σ:Sg):Flow->Fl->Prop
 | next:Cr Ω Φ σ .next .next
 | brk:Cr Ω Φ σ .brk .brk
 | cont:Cr Ω Φ σ .cont .cont
 | ret {v:Value} {x:aa}:VR Ω Φ σ v x->Cr Ω Φ σ (.ret v) (.ret x)
structure Ok(t:Wl Ω Kp hp s)(ns:bc)(sl:Slots)(env:PySem.Env)(own:List Addr)(me:Mn.Env):Prop where
 en:env.scope.names=ns
 may:∀n i,sl.lookup n=some i->oq env own n
 F:FS t env own sl me
theorem Ok.with{s' hp'}{t':Wl Ω Kp hp' s'}(O:Ok t ns sl env own me)(F:FS t' env own sl me'):Ok t' ns sl env own me':=⟨O.en,O.may,F⟩
noncomputable def SS(t:Wl Ω Kp hp s)(ns:bc)(sl:Slots)(env:PySem.Env)(own:List Addr)(m:HM FE)(w:Tr Flow):Prop:=
 ∀p hp',m hp=some (p,hp')->∀(E:Value->Shared->Prop) (Q:Flow->Shared->Prop),(∀f s' (t':Wl Ω Kp hp' s'),t.le t'->Ok t' ns sl env own p.2->Cr Ω t'.Φ t'.σ f p.1->Q f s')->w E Q s
section
variable{w w' w1 w2:Tr Flow}
theorem SS.wp(h:∀{E Q},w' E Q s->w E Q s)(k:SS t ns sl env own m w'):SS t ns sl env own m w:=λp hp' e E Q q=>h (k p hp' e E Q q)
theorem SS.no:SS t ns sl env own no w:=λp hp' e=>aA e
theorem SS.op{o:Option γ}{k:γ->HM FE}(h:∀a,o=some a->SS t ns sl env own (k a) w):SS t ns sl env own (hY o k) w:=
 match o,h with
 | none,_=>SS.no
 | some a,h=>h a rfl
theorem SS.gu{f:Int->HM FE}(h:∀i,x= .int i->SS t ns sl env own (f i) w):SS t ns sl env own (x.gu f Mn.no) w:=by
 cases x <;> first | exact SS.no | exact h _ rfl
theorem SS.pQ{f:List aa->HM FE}(h:∀i,x= .list i->SS t ns sl env own (f i) w):SS t ns sl env own (x.pQ f Mn.no) w:=by
 cases x <;> first | exact SS.no | exact h _ rfl
theorem SS.bx(h1:SS t ns sl env own m w1)(h2:SS t ns sl env own n w2):SS t ns sl env own (gJ b m n) (Gb b w1 w2):=
 match b with
 | true=>h1
 | false=>h2
theorem SS.ret{fl:Fl}{f:Flow}(O:Ok t ns sl env own me)(r:Cr Ω t.Φ t.σ f fl)(h:∀{E Q},Q f s->w E Q s):SS t ns sl env own (aj (fl,me)) w:=λp hp' e E Q q=>
 h (jP (P:=λ(p:FE) hp'=>(∀f s' (t':Wl Ω Kp hp' s'),t.le t'->Ok t' ns sl env own p.2->Cr Ω t'.Φ t'.σ f p.1->Q f s')->Q f s) e (λq=>q f s t .refl O r) q)
theorem SS.up{s1 hp1}{t1:Wl Ω Kp hp1 s1}(l:t.le t1)(h:SS t1 ns sl env own m w)(p:FE){hp':Hp}(e:m hp1=some (p,hp')){E}{Q:Flow->Shared->Prop}(q:∀f s' (t':Wl Ω Kp hp' s'),t.le t'->Ok t' ns sl env own p.2->Cr Ω t'.Φ t'.σ f p.1->Q f s'):w E Q s1:=
 h p hp' e E Q λf s' t' l' O r=>q f s' t' (l.trans l') O r
end
theorem dD{P:Addr->Prop}:∀b∈([]:List Addr),P b:=λ_ h=>nomatch h
theorem SS.run{m:HM α}{w:Tr β}{k:α->HM FE}{f:β->Tr Flow}(O:Ok t ns sl env own me)(h:Fr (t.plus (own++[]) (eu O.F.free dD)) env ns sl me->ae (t.plus (own++[]) (eu O.F.free dD)) m w R)
  (g:∀{hp1 s1 x v} {t1:Wl Ω Kp hp1 s1},t.le t1->Ok t1 ns sl env own me->R t1.Φ t1.σ v x->SS t1 ns sl env own (k x) (f v)):SS t ns sl env own (aL m k) (w.bind f):=
 λp hp' e E Q q=>ed e λx h1 e1 e2=>h (O.F.fr O.en (eu O.F.free dD)) x h1 e1 E _ λv s1 t1 l1 r1=>
  have l:t.le (t1.weak Facts.bQ):=⟨l1.d,l1.l,l1.r⟩
  SS.up l (g l (O.with (O.F.back (fa:=dD) t1 l).1) r1) p e2 q
theorem SS.look{k:aa->HM FE}{f:Value->Tr Flow}(O:Ok t ns sl env own me)(ha:ES Ω A C ns sl ma pa)(g:∀{hp1 s1 x v} {t1:Wl Ω Kp hp1 s1},t.le t1->Ok t1 ns sl env own me->t1.V v x->SS t1 ns sl env own (k x) (f v)):
  SS t ns sl env own (aL (ev Ω.P C ma me) k) ((Wp Ω A (eval pa env)).bind f):=SS.run O (λF=>ha F) g
variable(Ω A C)in
noncomputable def XS(ns:bc)(sl:Slots)(m:MS)(p:Stmt):Prop:=∀{env own Kp hp s me} {t:Wl Ω Kp hp s},Ok t ns sl env own me->SS t ns sl env own (Mn.exec Ω.P C m me) (Wp Ω A (PySem.exec p env))
variable(Ω A C)in
noncomputable def xl(ns:bc)(sl:Slots)(m:List MS)(p:List Stmt):Prop:=∀{env own Kp hp s me} {t:Wl Ω Kp hp s},Ok t ns sl env own me->SS t ns sl env own (Mn.execs Ω.P C m me) (Wp Ω A (PySem.execs p env))
theorem sD{value:Expr}(h:nt value=true)(t:Option Expr)(l:Nat):swapsWith value t l env=pure false:=by cases value <;> first | rfl | cases h
theorem AP{value o i:Expr}{p:Pos}(l:Nat):swapsWith value (some (.Subscript o i p)) l env=pure false:=by cases value <;> rfl
theorem xN{value o:Expr}{i:PySem.Str}{p:Pos}(l:Nat):swapsWith value (some (.Attribute o i p)) l env=pure false:=by cases value <;> rfl
theorem tX{id:PySem.Str}{i:Nat}(hs:mL (eQ sl id) i=true):sl.lookup id=some i:=(eP sl id).symm.trans (ta hs)
theorem xg(O:Ok t ns sl env own me)(ha:ES Ω A C ns sl ma pa){i:Nat}{id:PySem.Str}{p:Pos}(hs:sl.lookup id=some i)(hsw:swapsWith pa (some (.Name id p)) pos.line env=pure false):
  SS t ns sl env own (aL (ev Ω.P C ma me) λx=>aj (.next,me.set i x)) (Wp Ω A (PySem.exec (.Assign [.Name id p] pa pos) env)):=
 SS.wp (λh=>wpAny_Assign_Name h hsw) (SS.look O ha λl O V=>λp hp' e E Q q=>O.F.store hs (O.may _ _ hs) V λs2 t2 l2 _ _ F2=>SS.up (E:=E) (w:=λE Q s=>Q .next s) l2 (SS.ret (O.with F2) .next λh=>h) p e q)
theorem IJ(hh:A.handled=none)(ha:ES Ω A C ns sl ma pa){is:List Nat}{pt:Expr}{tg:Slots}(hn:DM pa=true)(ht:c7 (.tup is) pt=some tg)(hs:∀p∈tg,sl.lookup p.1=some p.2):XS Ω A C ns sl (.asg (.tup is) ma) (.Assign [pt] pa pos):=λO=>by
 obtain ⟨⟨es,k,p,rfl⟩,e1,e2⟩:=Option.bind_eq_some_iff.mp (show (Option.bind _ _)=some tg from ht)
 exact SS.wp (λh=>wpAny_Assign_stores h (by cases pa <;> rfl) (by cases pa <;> first | rfl | cases hn)) (SS.look O ha λ{_ _ x v t1} l O V=>SS.op λme2 e2=>λp hp' e E Q q=>
  rJ hh O.F V ht (λpr hpr=>⟨hs pr hpr,O.may _ _ (hs pr hpr)⟩) e2 λs2 t2 l2 _ _ F2=>SS.up (E:=E) (w:=λE Q s=>Q .next s) l2 (SS.ret (O.with F2) .next λh=>h) p e q)
theorem FH(ha:ES Ω A C ns sl ma pa)(hb:ES Ω A C ns sl mb pb)(hc:ES Ω A C ns sl mc pc){p:Pos}:XS Ω A C ns sl (.asg (.item mb mc) ma) (.Assign [.Subscript pb pc p] pa pos):=λO=>
 SS.wp (λh=>wpAny_Assign_Subscript h (AP _)) (SS.look O ha λl1 O V=>SS.look O hb λl2 O V2=>SS.look O hc λl3 O V3=>SS.run O (λ_=>sJ (t:=Wl.plus _ _ _) (l3.V V2) V3 (l3.V (l2.V V))) λl O _=>SS.ret O .next λh=>h)
theorem FJ(X:eW Ω)(ha:ES Ω A C ns sl ma pa)(hb:ES Ω A C ns sl mb pb){n:Sx}{id:PySem.Str}{p:Pos}(hn:sEq id (toS n)=true):XS Ω A C ns sl (.asg (.attr mb n) ma) (.Assign [.Attribute pb id p] pa pos):=λO=>by
 rw [iF hn]
 exact SS.wp (λh=>plainObj_wpAny_Assign_Attribute h (xN _)) (SS.look O ha λl1 O V=>SS.look O hb λl2 O V2=>SS.run O (λ_=>AY (t:=Wl.plus _ _ _) X V2 (l2.V V)) λl O _=>SS.ret O .next λh=>h)
theorem Fz(ha:ES Ω A C ns sl ma pa)(hb:ES Ω A C ns sl mb pb)(hc:ES Ω A C ns sl mc pc){p:Pos}(NV:iT pb=true):XS Ω A C ns sl (.aug ma mb mc) (.AugAssign (.Subscript pa pb p) .Add pc pos):=λO=>
 SS.wp (λh=>wpAny_AugAssign_SubscriptAny h (by cases pb <;> first | (intros;rfl) | cases NV)) (SS.look O ha λl1 O V=>SS.look O hb λl2 O V2=>SS.run O (λ_=>ae.rd λz e=>BG (t:=Wl.plus _ _ _) (l2.V V) V2 e) λl3 O V3=>SS.gu λi ei=>
  SS.look O hc λl4 O V4=>SS.gu λj ej=>SS.run (w:=Wp Ω A (inplaceOp .Add _ _)) (m:=aj (.int (i + j))) (R:=VR Ω) O (λ_=>VR.cQ (l4.V V3) ei (P:=λv=>ae (Wl.plus _ _ _) _ (Wp Ω A (inplaceOp .Add v _)) (VR Ω)) λtk=>VR.cQ V4 ej (P:=λu=>ae (Wl.plus _ _ _) _ (Wp Ω A (inplaceOp .Add (.int i tk) u)) (VR Ω)) λtk'=>ae.val λq=>wpAny_iadd_int (q _ _ (.int _ _)))
   λl5 O V5=>SS.run O (λ_=>sJ (t:=Wl.plus _ _ _) (l5.V (l4.V (l3.V (l2.V V)))) (l5.V (l4.V (l3.V V2))) V5) λl O _=>SS.ret O .next λh=>h)
end
theorem A8(env:PySem.Env)(h:env.scope.kind= .function):interactive env=false:=by
 unfold interactive
 rw [h]
 rfl
section
variable{Ω:Cx}{Φ Φ' Kp Kp':Facts}{σ σ':Sg}{hp hp':Hp}{h h':Heap}{s s':Shared}{A:Around}{v u:Value}{x y z:aa}{α β γ δ:Type}{t:Wl Ω Kp hp s}{w w':Tr β}{R:Rl β α}{R':Rl δ γ}{b c:Bool}{a:Addr}{m n:HM FE}
variable{C:jj}{ns:bc}{sl:Slots}{env:PySem.Env}{me me':Mn.Env}{pa pb pc:Expr}{ma mb mc:ME}{pos:Pos}{d:Nat}{own as:List Addr}{E:Value->Shared->Prop}
theorem Iq(ha:ES Ω A C ns sl ma pa)(hn:nt pa=true):XS Ω A C ns sl (.ex ma) (.Expr pa pos):=λO=>SS.wp (λh=>wpAny_Expr_any h (A8 _ O.F.fn) (sD hn _ _)) (SS.look O ha λl O V=>SS.ret O .next λh=>h)
theorem Dr(ha:ES Ω A C ns sl ma pa):XS Ω A C ns sl (.ret ma) (.Return (some pa) pos):=λO=>SS.wp wpAny_Return_some (SS.look O ha λl O V=>SS.ret O (.ret V) λh=>h)
theorem A1(ha:ES Ω A C ns sl ma pa){ks:List Sx}:XS Ω A C ns sl (.gs ma ks) (.Return (some pa) pos):=λO=>SS.wp wpAny_Return_some (SS.look O ha λ{_ _ x v _} l O V=>SS.run (w:=lQ v) (R:=VR Ω) O (λ_=>JR (t:=Wl.plus _ _ _) V ks) λl O V=>SS.ret O (.ret V) λh=>h)
theorem A0:XS Ω A C ns sl .Dq (.Return none pos):=λO=>SS.ret O (.ret .none) λh=>wpAny_Return_none h
theorem BK:XS Ω A C ns sl .cont (.Continue pos):=λO=>SS.ret O .cont λh=>wpAny_Continue h
theorem Fq:XS Ω A C ns sl .brk (.Break pos):=λO=>SS.ret O .brk λh=>wpAny_Break h
theorem SS.test{k:Bool->HM FE}{f:Bool->Tr Flow}(O:Ok t ns sl env own me)(ha:TS Ω A C ns sl ma pa)(g:∀{hp1 s1 q} {t1:Wl Ω Kp hp1 s1},t.le t1->Ok t1 ns sl env own me->SS t1 ns sl env own (k q) (f q)):
  SS t ns sl env own (aL (aL (ev Ω.P C ma me) dY) k) ((Wt Ω A pa env).bind f):=SS.run (R:=RB) O (λF=>ha F) λ{_ _ x v _} l O e=>(show v=x from e)▸g l O
theorem SS.MC(e:m=n){w:Tr Flow}(h:SS t ns sl env own n w):SS t ns sl env own m w:=e▸h
theorem Ez(hc:TS Ω A C ns sl mc pc){th el:List MS}{pth pel:List Stmt}(h1:xl Ω A C ns sl th pth)(h2:xl Ω A C ns sl el pel):XS Ω A C ns sl (.bx mc th el) (.If pc pth pel pos):=λ{env _ _ _ _ _ t} O=>
 SS.MC bF.symm (SS.wp wpAny_If (SS.test (t:=t) O hc λ{_ _ q _} l O=>SS.bx (w1:=Wp Ω A (PySem.execs pth env)) (w2:=Wp Ω A (PySem.execs pel env)) (h1 O) (h2 O)))
theorem Ok.look{q:α}{hp2:Hp}{m:HM α}{w:Tr β}(O:Ok t ns sl env own me)(h:Fr (t.plus (own++[]) (eu O.F.free dD)) env ns sl me->ae (t.plus (own++[]) (eu O.F.free dD)) m w R)(e:m hp=some (q,hp2)){E}{Q:β->Shared->Prop}
  (k:∀{v s1} (t1:Wl Ω Kp hp2 s1),t.le t1->Ok t1 ns sl env own me->R t1.Φ t1.σ v q->Q v s1):w E Q s:=
 h (O.F.fr O.en (eu O.F.free dD)) q hp2 e E Q λv s1 t1 l1 r1=>have l:t.le (t1.weak Facts.bQ):=⟨l1.d,l1.l,l1.r⟩;k _ l (O.with (O.F.back (fa:=dD) t1 l).1) r1
theorem CA{k:Mn.Env->HM FE}{p:FE}{b:List MS}{pb:List Stmt}(O:Ok t ns sl env own me)(hb:xl Ω A C ns sl b pb)(e:vw (Mn.execs Ω.P C b me) k hp=some (p,hp')){Qt:Flow->Shared->Prop}
  (on:∀{s3 h3 me3} (t3:Wl Ω Kp h3 s3),t.le t3->Ok t3 ns sl env own me3->k me3 h3=some (p,hp')->Qt .next s3/\Qt .cont s3) (brk:∀{s3} (t3:Wl Ω Kp hp' s3),t.le t3->Ok t3 ns sl env own p.2->Cr Ω t3.Φ t3.σ .next p.1->Qt .brk s3)
  (ret:∀{v s3} (t3:Wl Ω Kp hp' s3),t.le t3->Ok t3 ns sl env own p.2->Cr Ω t3.Φ t3.σ (.ret v) p.1->Qt (.ret v) s3):wpAny (model Ω.prog Ω.w) A (PySem.execs pb env) Qt E s:=
 ed e λq h1 e1 e2=>hb O q h1 e1 E Qt λf s3 t3 l3 O3 fr=>by
  obtain ⟨fl,me3⟩:=q
  cases fr with
  | next=>exact (on t3 l3 O3 e2).1
  | cont=>exact (on t3 l3 O3 e2).2
  | brk=>obtain ⟨rfl,rfl⟩:=Prod.mk.inj (ay (show some ((Fl.next,me3),h1)=some (p,hp')from e2));exact brk t3 l3 O3 .next
  | ret V=>obtain ⟨rfl,rfl⟩:=Prod.mk.inj (ay (show some ((Fl.ret _,me3),h1)=some (p,hp')from e2));exact ret t3 l3 O3 (.ret V)
theorem Gi(hc:TS Ω A C ns sl mc pc){b:List MS}{pb:List Stmt}(hb:xl Ω A C ns sl b pb):XS Ω A C ns sl (.wh mc b) (.While pc pb [] pos):=λ{env own Kp hp s me t} O p hp' e E Q q=>by
 refine wpAny_While ?_
 refine codeAny_whileLoop (λn s'=>∃hp1,∃t1:Wl Ω Kp hp1 s',∃me1,t.le t1/\Ok t1 ns sl env own me1/\Kh (λenv=>aL (ev Ω.P C mc env) dY) (λenv=>Mn.execs Ω.P C b env) n me1 hp1=some (p,hp')) (λn s' hI=>?_) LF ⟨hp,t,me,.refl,O,e⟩
 obtain ⟨hp1,t1,me1,l1,O1,e1⟩:=hI
 cases n with
 | zero=>cases e1
 | succ n=>
  refine ed e1 λq2 h2 e2 e3=>O1.look (λF=>hc F) e2 λ{v s2} t2 l2 O2 r2=>?_
  obtain rfl:v=q2:=r2
  have l12:=l1.trans l2
  cases v with
  | true=>
   refine CA O2 hb e3 (λt3 l3 O3 e4=>?_) (λt3 l3 O3 r=>q .next _ t3 (l12.trans l3) O3 r) λt3 l3 O3 r=>q (.ret _) _ t3 (l12.trans l3) O3 r
   exact ⟨⟨n,cZ _,_,t3,_,l12.trans l3,O3,e4⟩,⟨n,cZ _,_,t3,_,l12.trans l3,O3,e4⟩⟩
  | false=>
   obtain ⟨rfl,rfl⟩:=Prod.mk.inj (ay (show some ((Fl.next,me1),h2)=some (p,hp')from e3))
   exact wpAny_pure (q .next _ t2 l12 O2 .next)
theorem FS.plus(F:FS t env own sl me){I:Addr}(N:∀b∈[I],Un t.Φ Kp t.σ hp b)(dj:I∉own):FS (t.plus [I] N) env own sl me:=
 {F with
  free:=λb hb=>have f:=F.free b hb;⟨f.1,λk=>k.elim λo q=>q.elim (λq=>f.2.1 ⟨o,q⟩) λq=>dj (List.mem_singleton.mp q.1▸hb),f.2.2⟩
  vars:=F.vars.imp λm q=>q.imp λcm q=>⟨q.1,λn e=>(q.2.1 n e).imp λc q=>q.imp λo q=>⟨q.1,q.2.1,q.2.2.1,q.2.2.2.imp_right .inl⟩,q.2.2⟩}
theorem FS.minus(F:FS t env own sl me){I:Addr}{N:∀b∈[I],Un t.Φ Kp t.σ hp b}{o:Obj}(lv:s.heap.get? I=some o){t2:Wl Ω (Kp.and s.heap [I]) hp' s'}(F2:FS t2 env own sl me'):
  FS (t2.weak Facts.bQ) env own sl me'/\s'.heap.get? I=some o/\Un t2.Φ Kp t2.σ hp' I:=by
 have fr:=t2.S.uP ⟨o,.inr ⟨jN _,lv⟩⟩
 refine ⟨{F2 with free:=λb hb=>have f:=F2.free b hb;⟨f.1,λk=>k.elim λo q=>f.2.1 ⟨o,.inl q⟩,f.2.2⟩,vars:=F2.vars.imp λm q=>q.imp λcm q=>⟨q.1,λn e=>?_,q.2.2⟩},t2.S.kp _ _ (.inr ⟨jN _,lv⟩),fr.1,(N I (jN _)).2.1,fr.2⟩
 obtain ⟨c,o2,k1,k2,k3,k4⟩:=q.2.1 n e
 refine ⟨c,o2,k1,k2,k3,?_⟩
 obtain ⟨m0,cm0,_,g2,_⟩:=F.vars
 obtain ⟨c',o',j1,j2,j3,j4⟩:=g2 n e
 obtain rfl:=ay (k1.symm.trans j1)
 exact j4.imp_right λj=>ay ((t2.S.kp _ _ (.inl j)).symm.trans k2)▸j
theorem FS.Ha(F:FS t env own sl me){I:Addr}(n:s.heap.get? I=none):I∉own:=λq=>(F.live I q).elim λo e=>c8 n e
theorem ET(hh:A.handled=none){tg0:ji}{pt:Expr}{tg:Slots}{b:List MS}{pb:List Stmt}(htg:c7 tg0 pt=some tg)(hst:∀p∈tg,sl.lookup p.1=some p.2)(hb:xl Ω A C ns sl b pb)
  {I:Addr} {xs:List aa} {At:Nat->Heap->Prop} (T:It Ω A t.Φ t.σ I xs At) (nI:I∉own) (fI:Un t.Φ Kp t.σ hp I) (at0:At 0 s.heap) (O:Ok t ns sl env own me) {p:FE}
  (e:mO tg0 (λenv=>Mn.execs Ω.P C b env) xs me hp=some (p,hp')) {R:Result->Shared->Prop} (q:∀f s' (t':Wl Ω Kp hp' s'),t.le t'->Ok t' ns sl env own p.2->Cr Ω t'.Φ t'.σ f p.1->R (.ok f) s'):
  codeAny (model Ω.prog Ω.w) A (.forLoop pt (.ref I) pb [] env) R s:=by
 refine codeAny_forLoop_any (λn s'=>∃i hi,∃ti:Wl Ω Kp hi s',∃mi,n=xs.length + 1 - i/\i<=xs.length/\t.le ti/\Ok ti ns sl env own mi/\At i s'.heap/\Un ti.Φ Kp ti.σ hi I/\
  mO tg0 (λenv=>Mn.execs Ω.P C b env) (xs.drop i) mi hi=some (p,hp')) (λn s' hI=>?_) (xs.length + 1) ⟨0,hp,t,me,rfl,bP _,.refl,O,at0,fI,e⟩
 obtain ⟨i,hi,ti,mi,rfl,hle,l1,Oi,Q4,fi,ei⟩:=hI
 by_cases hlt:i < xs.length
 ·refine T.item (List.getElem?_eq_getElem hlt) Q4 λv h2 tk2 rv at2 k2=>EI T htg at2 ?_
  rw [List.drop_eq_getElem_cons hlt]at ei
  refine pf ei λm3 e3 ei=>rJ hh (Oi.F.turn fi nI k2 tk2) (l1.V rv) htg (λp hp=>⟨hst p hp,Oi.may _ _ (hst p hp)⟩) e3 λs3 t3 l3 u3 k3 F3=>?_
  have l13:t.le t3:=l1.trans (Wl.fw.trans l3)
  have at3:At (i + 1) s3.heap:=T.frame at2 (λb o e=>(ti.turn fi k2 tk2).S.fz b o (l1.l _ _ e)) (λb o e=>t3.S.fz b o (l13.l _ _ e)) λo e=>k3 _ o nI e
  obtain ⟨oI,hI3⟩:=T.there at3
  have fr3:∀b∈[I],Un t3.Φ Kp t3.σ hi b:=λb hb=>List.mem_singleton.mp hb▸u3 I fi
  have back:∀{h4 m4 s4} {t4:Wl Ω (Kp.and s3.heap [I]) h4 s4},(t3.plus [I] fr3).le t4->Ok t4 ns sl env own m4->t.le (t4.weak Facts.bQ)/\Ok (t4.weak Facts.bQ) ns sl env own m4/\At (i + 1) s4.heap/\Un t4.Φ Kp t4.σ h4 I:=λ{h4 m4 s4 t4} l4 O4=>
   have k:=F3.minus (N:=fr3) hI3 O4.F
   have l:t.le (t4.weak Facts.bQ):=l13.trans ⟨l4.d,l4.l,l4.r⟩
   ⟨l,⟨O4.en,O4.may,k.1⟩,T.frame at3 (λb o e=>t3.S.fz b o (l13.l _ _ e)) (λb o e=>t4.S.fz b o (l.l _ _ e)) λo e=>ay (hI3.symm.trans e)▸k.2.1,k.2.2⟩
  refine CA (t:=t3.plus [I] fr3) ⟨Oi.en,Oi.may,F3.plus fr3 nI⟩ hb ei (λ{s4 h4 m4} t4 l4 O4 e4=>?_) (λt4 l4 O4 r=>have k:=back l4 O4;q .next _ _ k.1 k.2.1 r) λt4 l4 O4 r=>have k:=back l4 O4;q (.ret _) _ _ k.1 k.2.1 r
  have k:=back l4 O4
  have fin:xs.length + 1 - (i + 1) < xs.length + 1 - i:=by omega
  exact ⟨⟨_,fin,i + 1,h4,t4.weak Facts.bQ,m4,rfl,hlt,k.1,k.2.1,k.2.2.1,k.2.2.2,e4⟩,⟨_,fin,i + 1,h4,t4.weak Facts.bQ,m4,rfl,hlt,k.1,k.2.1,k.2.2.1,k.2.2.2,e4⟩⟩
 ·obtain rfl:i=xs.length:=Nat.le_antisymm hle (Nat.not_lt.mp hlt)
  refine T.done Q4 λh2 tk2 k2=>?_
  rw [List.drop_length]at ei
  obtain ⟨rfl,rfl⟩:=Prod.mk.inj (ay (show some ((Fl.next,mi),hi)=some (p,hp')from ei))
  exact wpAny_pure (q .next _ (ti.turn fi k2 tk2) (l1.trans Wl.fw) (Oi.with (Oi.F.turn fi nI k2 tk2)) .next)
theorem JS(hh:A.handled=none){tg0:ji}{pt:Expr}{tg:Slots}{b:List MS}{pb:List Stmt}(htg:c7 tg0 pt=some tg)(hst:∀p∈tg,sl.lookup p.1=some p.2)(hb:xl Ω A C ns sl b pb){xs:List aa}(O:Ok t ns sl env own me){p:FE}(e:mO tg0 (λenv=>Mn.execs Ω.P C b env) xs me hp=some (p,hp'))
  {R:Result->Shared->Prop} (q:∀f s' (t':Wl Ω Kp hp' s'),t.le t'->Ok t' ns sl env own p.2->Cr Ω t'.Φ t'.σ f p.1->R (.ok f) s'):N3 Ω A t.Φ t.σ s xs (λit s2=>codeAny (model Ω.prog Ω.w) A (.forLoop pt it pb [] env) R s2):=λI h2 At n2 k2 at2 T=>
 ET (t:=t.grow k2 s.toks) hh htg hst hb T (O.F.Ha n2) (t.S.ff n2) at2 (O.with (O.F.grow k2 _)) e λf s' t' l=>q f s' t' (Wl.pS.trans l)
theorem Il(hr:lF d A){tg0:ji}{pt:Expr}{tg:Slots}{b:List MS}{pb:List Stmt}(ha:ES Ω A C ns sl ma pa)(hn:mw pa=true)(htg:c7 tg0 pt=some tg)(hst:∀p∈tg,sl.lookup p.1=some p.2)(hb:xl Ω A C ns sl b pb):XS Ω A C ns sl (.fr tg0 ma b) (.For pt pa pb [] pos):=λO p hp' e E Q q=>
 ed e λx h1 e1 e=>pf e λxs e2 e=>wpAny_For (O.look (λF=>ha F) e1 λt1 l1 O1 V1=>yw hr.1 t1 V1 e2 (JS hr.1 htg hst hb O1 e λf s' t' l=>q f s' t' (l1.trans l))) (oG hn _)
theorem G8{x:aa}{f:List aa->HM α}{P:Prop}{h:Hp}{r:α×Hp}(e:x.pQ f no h=some r)(p:∀xs,x= .list xs->f xs h=some r->P):P:=by
 cases x <;> first | exact aA e | exact p _ rfl e
theorem EP(hr:lF d A){tg0:ji}{pt:Expr}{tg:Slots}{b:List MS}{pb:List Stmt}{id:PySem.Str}{p cp:Pos}(hg:Built Ω ns id "reversed")(n:notStar pa=true)(ha:ES Ω A C ns sl ma pa)(htg:c7 tg0 pt=some tg)(hst:∀p∈tg,sl.lookup p.1=some p.2)(hb:xl Ω A C ns sl b pb):
  XS Ω A C ns sl (.Im tg0 ma b) (.For pt (.Call (.Name id p) [pa] [] cp) pb [] pos):=λ{env _ _ _ _ _ t} O p hp' e E Q q=>
 ed e λx h1 e1 e=>G8 e λxs ex e=>wpAny_For (Call_Name rfl (hU (O.F.fr (as:=[]) O.en (eu O.F.free dD)) hg (by decide) w3 (PyProof.Rows.callWith_type (plain1 n) (tB n (O.look (λF=>ha F) e1 λt1 l1 O1 V1=>
  O0 hr.1 t1 (ex▸V1) (JS hr.1 htg hst hb O1 e λf s' t' l=>q f s' t' (l1.trans l))))))) (λ_=>rfl)
end
section
variable{Ω:Cx}{Φ Φ' Kp Kp':Facts}{σ σ':Sg}{hp hp':Hp}{h h':Heap}{s s':Shared}{A:Around}{v u:Value}{x y z:aa}{α β γ δ:Type}{t:Wl Ω Kp hp s}{w w':Tr β}{R:Rl β α}{R':Rl δ γ}{b c:Bool}{a:Addr}{m n:HM FE}
variable{C:jj}{ns:bc}{sl:Slots}{env:PySem.Env}{me me':Mn.Env}{pa pb pc:Expr}{ma mb mc:ME}{pos:Pos}{d:Nat}{own as:List Addr}{E:Value->Shared->Prop}
structure AH(Ω:Cx)(A:Around)(C:jj)(ns:bc)(sl:Slots)(tg0:ji)(it:ME)(test:Option ME)(elt:ME)(ptg piter pelt:Expr)(ifs:List Expr)(sc:Scope):Prop where
 ex:∃tg,c7 tg0 ptg=some tg/\tE ns sl sc tg/\pE Ω A C (d7 ns sc.names) (bM sl sc.names tg) test ifs/\ES Ω A C (d7 ns sc.names) (bM sl sc.names tg) elt pelt
 hit:ES Ω A C ns sl it piter
 NV:mw piter=true
theorem AH.case(k:AH Ω A C ns sl tg0 it test elt ptg piter pelt ifs sc)(hr:lF d A){m:Mode}:ES Ω A C ns sl (.comp m tg0 it test elt) (.ListComp pelt [⟨ptg,piter,ifs,0⟩] sc pos):=k.ex.elim λtg q=>tm hr k.hit k.NV q.1 q.2.1 q.2.2.1 q.2.2.2
theorem FI(hr:lF d A){m:Mode}{tg0:ji}{it:ME}{test:Option ME}{elt:ME}{ptg piter pelt:Expr}{ifs:List Expr}{sc:Scope}{lp:Pos}
  (kk:AH Ω A C ns sl tg0 it test elt ptg piter pelt ifs sc) {i:Nat} {id:PySem.Str} {p:Pos} (hs:sl.lookup id=some i) (O:Ok t ns sl env own me) (hsw:swapsWith (.ListComp pelt [⟨ptg,piter,ifs,0⟩] sc lp) (some (.Name id p)) pos.line env=pure true):
  SS t ns sl env own (aL (ev Ω.P C (.comp m tg0 it test elt) me) λx=>aj (.next,me.set i x)) (Wp Ω A (PySem.exec (.Assign [.Name id p] (.ListComp pelt [⟨ptg,piter,ifs,0⟩] sc lp) pos) env)):=λpp hp' e E Q q=>by
 obtain ⟨tg,htg,hk,htest,helt⟩:=kk.ex
 refine ed e λx h1 e1 e2=>?_
 obtain ⟨rfl,rfl⟩:=Prod.mk.inj (ay (show some ((Fl.next,me.set i x),h1)=some (pp,hp')from e2))
 have F:=O.F.fr (as:=[]) O.en (eu O.F.free dD)
 show wpAny (model Ω.prog Ω.w) A (PySem.exec _ env) Q E s
 rw [exec_Assign_Name_used _ _ _ _ hsw]
 refine wpAny_bind (wpAny_standAt (wpAny_bind ?_))
 show wpAny _ A (do let _ <-comprehension (.ListComp pelt [⟨ptg,piter,ifs,0⟩] sc lp) sc env _ (newList []) false (eval piter env) (some (assign (.Name id p) env))) _ _ s
 refine wpAny_bind (wpAny_mono (wpAny_comprehension_free (use:=some (assign (.Name id p) env)) (Q:=λ_ s'=>Q .next s') rfl (oG kk.NV env) (ru hk F) hk.kind (λp hp hl=>mem_lookup _ hk.nd (hl▸hp))
  (rr hr kk.hit htg hk htest helt F e1 λD Cn s5 hE t5 vs n ys l5 fC fD hDC hm hD V e5=>?_)) (λ_ s' hq=>wpAny_pure (wpAny_pure hq)) λ_ _ e=>e)
 obtain ⟨m',hm⟩:=hm
 have nC:Cn∉own:=λq=>(O.F.live Cn q).elim λo e=>fC.2.1 ⟨o,.inr ⟨cu _ q,e⟩⟩
 have N:∀b∈[Cn],Un t5.Φ (Kp.and s.heap (own++[])) t5.σ hE b:=λb hb=>List.mem_singleton.mp hb▸fC
 obtain ⟨Φ6,σ6,l6,r6,S6,V6⟩:=St.make (t5.plus [Cn] N).S ⟨fD.1,λk=>k.elim λo q=>q.elim (λq=>fD.2.1 ⟨o,q⟩) λq=>hDC (List.mem_singleton.mp q.1),fD.2.2⟩ (.list hD V) e5
 have fr:=hm.elim λo k=>k.elim λ_ k=>k.elim λ_ k=>S6.uP ⟨o,.inr ⟨jN _,k.1⟩⟩
 have l56:t.le ((⟨Φ6,σ6,t5.B,t5.g.trans l6,S6.weak Facts.bQ⟩:Wl Ω (Kp.and s.heap (own++[])) h1 s5).weak Facts.bQ):=⟨l5.d,l5.l.trans l6,l5.r.trans r6⟩
 have F6:=(O.F.back (fa:=dD) ⟨Φ6,σ6,t5.B,t5.g.trans l6,S6.weak Facts.bQ⟩ l56).1
 show wpAny _ A (assign (.Name id p) env (.ref D)) _ _ _
 refine wpAny_assign_Name (F6.store hs (O.may id i hs) V6 λs7 t7 l7 u7 k7 F7=>?_)
 refine ⟨m',hm.imp λo q=>q.imp λ_ q=>q.imp λ_ q=>⟨k7 Cn o nC q.1,q.2⟩,λh8 b8=>?_⟩
 have uC:=u7 Cn ⟨fr.1,λk=>k.elim λo q=>fC.2.1 ⟨o,.inl q⟩,fr.2⟩
 exact q .next _ (t7.turn uC (λb o=>b8.extBut b o) s7.toks) (l56.trans (l7.trans Wl.fw)) (O.with (F7.turn uC nC (λb o=>b8.extBut b o) s7.toks)) .next
theorem Nj(ha:ES Ω A C ns sl ma pa){i:Nat}{id:PySem.Str}{p:Pos}(hs:sl.lookup id=some i)(hn:nt pa=true):XS Ω A C ns sl (.asg (.v i) ma) (.Assign [.Name id p] pa pos):=λO=>xg O ha hs (sD hn _ _)
theorem Ni(hr:lF d A){m:Mode}{tg0:ji}{it:ME}{test:Option ME}{elt:ME}{ptg piter pelt:Expr}{ifs:List Expr}{sc:Scope}{lp:Pos}
  (kk:AH Ω A C ns sl tg0 it test elt ptg piter pelt ifs sc) {i:Nat} {id:PySem.Str} {p:Pos} (hs:sl.lookup id=some i):XS Ω A C ns sl (.asg (.v i) (.comp m tg0 it test elt)) (.Assign [.Name id p] (.ListComp pelt [⟨ptg,piter,ifs,0⟩] sc lp) pos):=λ{env _ _ _ _ _ _} O=>by
 obtain ⟨bb,hbb⟩:∃bb:Bool,swapsWith (.ListComp pelt [⟨ptg,piter,ifs,0⟩] sc lp) (some (.Name id p)) pos.line env=pure bb:=⟨_,rfl⟩
 cases bb with
 | false=>exact xg O (kk.case hr) hs hbb
 | true=>exact FI hr kk hs O hbb
theorem zN{o:Option ak}{f:List (Sx×aa)->HM α}{P:Prop}{h:Hp}{r:α×Hp}(e:ie o f no h=some r)(p:∀xs,o=some (.sd xs)->f xs h=some r->P):P:=by
 rcases o with _ | o
 ·exact aA e
 ·cases o <;> first | exact aA e | exact p _ rfl e
variable(Ω C)in
noncomputable def GH(ns:bc)(sl:Slots)(m:MS):Prop:=∀{env own Kp hp s me} {t:Wl Ω Kp hp s},Ok t ns sl env own me->SS t ns sl env own (Mn.exec Ω.P C m me) (lQ Flow.next)
theorem FS.hold(F:FS t env own sl me){n:PySem.Str}{i:Nat}(hl:sl.lookup n=some i)(e:me[i]?=some x)(hx:x≠ .undef):∃v,t.V v x/\∀{hp' s'} (t':Wl Ω Kp hp' s'),Le t.Φ t'.Φ->ow t.σ t'.σ->(∀b∈own,Un t'.Φ Kp t'.σ hp' b)->
  (∀b o,(b∈own\/Kp b o)->s.heap.get? b=some o->s'.heap.get? b=some o)->∀{y},t'.V v y->FS t' env own sl (me.set i y):=by
 obtain ⟨m,cm,k1,k2,k3⟩:=F.vars
 obtain ⟨v,r,k⟩:=k3 n i x hl e hx
 refine ⟨v,r,λ{hp' s'} t' l r f kp {y} V=>{F with
  free:=f
  live:=λb hb=>(F.live b hb).imp λo e=>kp b o (.inl hb) e
  vars:=⟨m,cm,k1.imp λo q=>q.imp λ_ q=>q.imp λ_ q=>⟨kp _ _ (.inl F.DY) q.1,q.2⟩,λn e=>(k2 n e).imp λc q=>q.imp λo q=>⟨q.1,kp _ _ q.2.2.2 q.2.1,q.2.2⟩,λn' i' z f1 f2 f3=>?_⟩}⟩
 by_cases c:i=i'
 ·rw [<-c]at f1 f2
  rw [F.inj n' n i f1 hl,xU f2]
  exact ⟨v,V,k⟩
 ·rw [List.getElem?_set_ne c]at f2
  exact (k3 n' i' z f1 f2 f3).imp λv q=>⟨q.1.mono l r,q.2⟩
theorem Ok.here{m:HM α}{v:β}{q:α}{hp2:Hp}(O:Ok t ns sl env own me)(h:ae (t.plus (own++[]) (eu O.F.free dD)) m (lQ v) R)(e:m hp=some (q,hp2)){P:Prop}
  (k:∀t1:Wl Ω (Kp.and s.heap (own++[])) hp2 s,t.le (t1.weak Facts.bQ)->FS (t1.weak Facts.bQ) env own sl me->R t1.Φ t1.σ v q->P):P:=
 h q hp2 e (λ_ _=>True) (λv' s1=>v'=v->s1=s->P) (λv' s1 t1 l1 r ev es=>by
  subst ev es
  have l:t.le (t1.weak Facts.bQ):=⟨l1.d,l1.l,l1.r⟩
  exact k t1 l (O.F.back (fa:=dD) t1 l).1 r) rfl rfl
theorem Ig{i:Nat}{ks:List Sx}{n:PySem.Str}(hl:sl.lookup n=some i):GH Ω C ns sl (.kP i ks):=λ{env own Kp hp s me t} O p hp' e E Q q=>pf e λx e1 e=>ed e λy h1 e2 e3=>by
 have hx:x≠ .undef:=λq=>by rw [q]at e2;cases e2
 obtain ⟨rfl,rfl⟩:=Prod.mk.inj (ay (show some ((Fl.next,me.set i y),h1)=some (p,hp')from e3))
 obtain ⟨v,V,k⟩:=O.F.hold hl e1 hx
 exact O.here (JR (t:=t.plus (own++[]) (eu O.F.free dD)) V ks) e2 λt1 l F V=>q _ s (t1.weak Facts.bQ) l (O.with (k _ l.l l.r F.free (λ_ _ _ e=>e) V)) .next
theorem Hp.GZ{hp:Hp}{l l':aa}{ob o:ak}(h:hp.get l=some ob)(e:(hp.put l o).get l'=some ob'):∃o',hp.get l'=some o':=(Hp.uM h e).elim (λq=>⟨ob,q.1▸h⟩) λq=>⟨_,q.2⟩
theorem EJ{i:Nat}{k:Sx}:GH Ω C ns sl (.fj i k):=λ{env own Kp hp s me t} O p hp' e E Q q=>pf e λx e1 e=>zN e λkvs e2 e=>ed e λkvs2 h2 e3 e=>zN e λ_ e4 e5=>by
 obtain ⟨a,ha,o⟩:=t.S.obj x _ e2
 obtain ⟨kvs',k1,W⟩:=o.iS
 obtain ⟨rfl,rfl⟩:=Prod.mk.inj (ay (show some ((Fl.next,me),h2.put x (.sd kvs2))=some (p,hp')from e5))
 refine O.here (qo (t:=t.plus (own++[]) (eu O.F.free dD)) W k) e3 λt1 l F R=>?_
 have S2:=(t1.weak Facts.bQ).S.upd e4 (l.r _ _ ha) (Heap.SameBut.refl _ _) (.sd k1 R)
 exact q _ s ⟨t1.Φ,t1.σ,t1.B,t1.g,S2⟩ ⟨l.d,l.l,l.r⟩ (O.with (F.move ⟨t1.Φ,t1.σ,t1.B,t1.g,S2⟩ .refl .refl (λb hb=>have f:=F.free b hb;⟨f.1,f.2.1,λl' ob e=>(Hp.GZ e4 e).elim λo' e=>f.2.2 l' o' e⟩) λ_ _ _ e=>e)) .next
theorem EN{i:Nat}:GH Ω C ns sl (.nW i):=λ{env own Kp hp s me t} O p hp' e E Q q=>pf e λx e1 e=>by
 have stay:aj (Fl.next,me) hp=some (p,hp')->Q .next s:=λe=>by obtain ⟨rfl,rfl⟩:=Prod.mk.inj (ay (show some ((Fl.next,me),hp)=some (p,hp')from e));exact q _ s t .refl O .next
 cases x with
 | af id=>
  obtain ⟨rfl,rfl⟩:=Prod.mk.inj (ay (show some ((Fl.next,me),hp.del (.af id))=some (p,hp')from e))
  exact q _ s ⟨t.Φ,t.σ,t.B,t.g,t.S.del _⟩ ⟨.refl,.refl,.refl⟩ (O.with (O.F.move ⟨t.Φ,t.σ,t.B,t.g,t.S.del _⟩ .refl .refl (λb hb=>have f:=O.F.free b hb;⟨f.1,f.2.1,λl' ob e=>f.2.2 l' ob (Hp.gM e).1⟩) λ_ _ _ e=>e)) .next
 | _=>exact stay e
theorem SS.seq{w1:Tr Flow}{ms:MS}{r:List MS}{ps:List Stmt}(h1:SS t ns sl env own (Mn.exec Ω.P C ms me) w1)(hr:xl Ω A C ns sl r ps):SS t ns sl env own (Mn.execs Ω.P C (ms::r) me) (λE Q s=>w1 E (λf s1=>match f with
  | .next=>wpAny (model Ω.prog Ω.w) A (PySem.execs ps env) Q E s1
  | f=>Q f s1) s):=λp hp' e E Q q=>ed e λq1 hp1 e1 e2=>h1 q1 hp1 e1 E _ λf s1 t1 l1 O1 fr=>by
 obtain ⟨fl,me1⟩:=q1
 cases fr with
 | next=>exact SS.up l1 (hr O1) p e2 q
 | brk=>obtain ⟨rfl,rfl⟩:=Prod.mk.inj (ay (show some ((Fl.brk,me1),hp1)=some (p,hp')from e2));exact q _ s1 t1 l1 O1 .brk
 | cont=>obtain ⟨rfl,rfl⟩:=Prod.mk.inj (ay (show some ((Fl.cont,me1),hp1)=some (p,hp')from e2));exact q _ s1 t1 l1 O1 .cont
 | ret V=>obtain ⟨rfl,rfl⟩:=Prod.mk.inj (ay (show some ((Fl.ret _,me1),hp1)=some (p,hp')from e2));exact q _ s1 t1 l1 O1 (.ret V)
theorem Ke:xl Ω A C ns sl [] []:=λO=>SS.ret O .next λh=>wpAny_pure h
set_option backward.match.sparseCases true in
theorem execs_cons(p:Stmt)(ps:List Stmt)(env:PySem.Env):PySem.execs (p::ps) env=(do
  match <-PySem.exec p env with
  | .next=>PySem.execs ps env
  | f=>pure f):=rfl
theorem Gg{ms:MS}{r:List MS}{p:Stmt}{ps:List Stmt}(h1:XS Ω A C ns sl ms p)(hr:xl Ω A C ns sl r ps):xl Ω A C ns sl (ms::r) (p::ps):=λO=>SS.wp (λh=>by
 show wpAny _ _ (PySem.execs (p::ps) _) _ _ _
 rw [execs_cons]
 exact wpAny_bind (wpAny_mono h (λf s1 h=>by cases f <;> first | exact h | exact wpAny_pure h) λ_ _ h=>h)) (SS.seq (h1 O) hr)
theorem p7{ms:MS}{r:List MS}{ps:List Stmt}(hg:GH Ω C ns sl ms)(hr:xl Ω A C ns sl r ps):xl Ω A C ns sl (ms::r) ps:=λO=>SS.seq (w1:=lQ Flow.next) (hg O) hr
end
section
variable{Ω:Cx}{A:Around}{C:jj}{d:Nat}
theorem pl{ns:bc}{sl:Slots}{a:ME}{pa:Expr}(ha:ES Ω A C ns sl a pa)(he:∀env whole,isTrue pa env whole=(do let v <-whole;standAt pa.pos;holding [v] (truthy v))):
  ES Ω A C ns sl a pa/\TS Ω A C ns sl a pa:=⟨ha,vx ha he⟩
variable(Ω A C)in
noncomputable abbrev CE(ns:bc)(sl:Slots)(e:ME)(pe:Expr):Type:=Ck (ES Ω A C ns sl e pe/\TS Ω A C ns sl e pe)
variable(X:eW Ω)(hr:lF d A)(hC:fc Ω C d)
mutual
noncomputable def cE:(e:ME)->(ns:bc)->(sl:Slots)->(pe:Expr)->CE Ω A C ns sl e pe
 | .c v,ns,sl,pe=>match pe with
  | .Constant c _ _=>(MP c v).map λh=>pl (λF=>h _) λ_ _=>rfl
  | _=>.n
 | .gc n v,ns,sl,pe=>match pe with
  | .Name id _=>.aH (sEq id (toS n)) λ_=>(Wn ns sl n v id).map λh=>pl h λ_ _=>rfl
  | _=>.n
 | .v i,ns,sl,pe=>match pe with
  | .Name id _=>.aH (mL (eQ sl id) i) λh=>.y (pl (Cv h) λ_ _=>rfl)
  | _=>.n
 | .add _ a b,ns,sl,pe=>match pe with
  | .BinOp l .Add r _=>(cE a ns sl l).both (cE b ns sl r) λx y=>pl (FP x.1 y.1) λ_ _=>rfl
  | _=>.n
 | .sub a b,ns,sl,pe=>match pe with
  | .BinOp l .Sub r _=>(cE a ns sl l).both (cE b ns sl r) λx y=>pl (CN x.1 y.1) λ_ _=>rfl
  | _=>.n
 | .mod a b,ns,sl,pe=>match pe with
  | .BinOp l .Mod r _=>(cE a ns sl l).both (cE b ns sl r) λx y=>pl (DV x.1 y.1) λ_ _=>rfl
  | _=>.n
 | .fdiv a b,ns,sl,pe=>match pe with
  | .BinOp l .FloorDiv r _=>(cE a ns sl l).both (cE b ns sl r) λx y=>pl (BI x.1 y.1) λ_ _=>rfl
  | _=>.n
 | .band a b,ns,sl,pe=>match pe with
  | .BinOp l .BitAnd r _=>(cE a ns sl l).both (cE b ns sl r) λx y=>pl (B0 x.1 y.1) λ_ _=>rfl
  | _=>.n
 | .neg a,ns,sl,pe=>match pe with
  | .UnaryOp .USub x _=>(cE a ns sl x).map λx=>pl (DS x.1) λ_ _=>rfl
  | _=>.n
 | .not a,ns,sl,pe=>match pe with
  | .UnaryOp .Not x _=>(cE a ns sl x).map λx=>⟨DL x.1,A7 x.2⟩
  | _=>.n
 | .and es,ns,sl,pe=>match pe with
  | .BoolOp .And xs _=>(cs es ns sl xs).map λx=>⟨FN x,Ca x⟩
  | _=>.n
 | .or es,ns,sl,pe=>match pe with
  | .BoolOp .Or xs _=>(cs es ns sl xs).map λx=>⟨G6 x,DD x⟩
  | _=>.n
 | .ite c a b,ns,sl,pe=>match pe with
  | .IfExp t x y _=>(cE c ns sl t).bind λic=>(cE a ns sl x).both (cE b ns sl y) λia ib=>⟨Eo ic.2 ia.1 ib.1,Bw ic.2 ia.2 ib.2⟩
  | _=>.n
 | .cmp o a b,ns,sl,pe=>match pe with
  | .Compare l [op] [r] _=>.aH (hH o==op) λh1=>.aH (!behindInMarks op r) λh2=>(cE a ns sl l).both (cE b ns sl r) λia ib=>⟨Fc hr (beq_iff_eq.mp h1) (oH h2) ia.1 ib.1,BN hr (beq_iff_eq.mp h1) (oH h2) ia.1 ib.1⟩
  | _=>.n
 | .BP o p a b c,ns,sl,pe=>match pe with
  | .Compare l [op,op'] [r,r'] _=>.aH (hH o==op) λh1=>.aH (hH p==op') λh2=>.aH (!lastMarks [op,op'] [r,r']) λh3=>(cE a ns sl l).bind λia=>(cE b ns sl r).both (cE c ns sl r') λib ic=>⟨BO hr (beq_iff_eq.mp h1) (beq_iff_eq.mp h2) (oH h3) ia.1 ib.1 ic.1,yP hr (beq_iff_eq.mp h1) (beq_iff_eq.mp h2) (oH h3) ia.1 ib.1 ic.1⟩
  | _=>.n
 | .attr a n,ns,sl,pe=>match pe with
  | .Attribute o attr _=>.aH (sEq attr (toS n)) λh1=>.aH (aZ o) λh2=>(cE a ns sl o).map λx=>pl (B7 X h1 h2 x.1) λ_ _=>rfl
  | _=>.n
 | .item a i,ns,sl,pe=>match pe with
  | .Subscript o s _=>.aH (iT s) λh=>(cE a ns sl o).both (cE i ns sl s) λx y=>pl (Bv h x.1 y.1) λ_ _=>rfl
  | _=>.n
 | .slice a lo hi,ns,sl,pe=>match pe with
  | .Subscript o (.Slice l u none _) _=>(cE a ns sl o).bind λx=>(cO lo ns sl l).both (cO hi ns sl u) λy z=>pl (xS x.1 y z) λ_ _=>rfl
  | _=>.n
 | .tup es,ns,sl,pe=>match pe with
  | .Tuple xs _ _=>.aH (decide (xs.length < 1000)) λh=>(cs es ns sl xs).map λx=>pl (CC x (of_decide_eq_true h)) λ_ _=>rfl
  | _=>.n
 | .list _ es,ns,sl,pe=>match pe with
  | .List xs _=>.aH (decide (xs.length < 1000)) λh=>(cs es ns sl xs).map λx=>pl (Bi x (of_decide_eq_true h)) λ_ _=>rfl
  | _=>.n
 | .fN _ ks es,ns,sl,pe=>match pe with
  | .Dict keys vals _=>.aH (decide (keys.length=vals.length)) λh1=>.aH (decide (vals.length<=15)) λh=>(As Te keys ks).both (cs es ns sl vals) λk x=>pl (yK k x (of_decide_eq_true h1) (of_decide_eq_true h)) λ_ _=>rfl
  | _=>.n
 | .lX _ ks es,ns,sl,pe=>match pe with
  | .Dict keys vals _=>.aH (decide (keys.length=vals.length)) λh1=>.aH (decide (vals.length<=15)) λh=>(As Tg keys ks).both (cs es ns sl vals) λk x=>pl (yN k x (of_decide_eq_true h1) (of_decide_eq_true h)) λ_ _=>rfl
  | _=>.n
 | .comp _ t it test elt,ns,sl,pe=>match pe with
  | .ListComp pelt [⟨ptg,piter,ifs,0⟩] sc _=>.aH (mw piter) λh1=>match ht:c7 t ptg with
   | some tg=>(JZ ns sl sc tg).bind λh2=>(cE it ns sl piter).bind λx=>(cT test (d7 ns sc.names) (bM sl sc.names tg) ifs).both (cE elt (d7 ns sc.names) (bM sl sc.names tg) pelt) λy z=>pl (tm hr x.1 h1 ht h2 y z.1) λ_ _=>rfl
   | none=>.n
  | _=>.n
 | .call f es,ns,sl,pe=>match pe with
  | .Call (.Name id _) args [] _=>(bw ns id (Ω.fA f)).both (cs es ns sl args) λh x=>pl (BS hr hC h x) λ_ _=>rfl
  | _=>.n
 | .new c es,ns,sl,pe=>match pe with
  | .Call (.Name id _) args [] _=>(bw ns id (Ω.cA c)).both (cs es ns sl args) λh x=>pl (DR X hr hC h x) λ_ _=>rfl
  | _=>.n
 | .mB o n es,ns,sl,pe=>match pe with
  | .Call (.Attribute po name apos) args [] pos=>.aH (sEq name (toS n)) λh1=>.aH (aZ po) λh2=>.aH (Nat.beq apos.endLine pos.line) λh3=>.aH (decide (args.length < 30)) λh4=>(cE o ns sl po).both (cs es ns sl args) λx y=>pl (Bc X hr hC h1 h2 h3 (of_decide_eq_true h4) x.1 y) λ_ _=>rfl
  | _=>.n
 | .gW a,ns,sl,pe=>match pe with
  | .Call (.Name id _) [x] [] _=>(wU ns id "range").bind λh1=>.aH (notStar x) λh2=>(cE a ns sl x).map λx=>pl (vQ h1 h2 x.1) λ_ _=>rfl
  | _=>.n
 | .qr a b,ns,sl,pe=>match pe with
  | .Call (.Name id _) [x,y] [] _=>(wU ns id "range").bind λh1=>.aH (notStar x) λh2=>.aH (notStar y) λh3=>(cE a ns sl x).both (cE b ns sl y) λx y=>pl (vP h1 h2 h3 x.1 y.1) λ_ _=>rfl
  | _=>.n
 | .max2 a b,ns,sl,pe=>match pe with
  | .Call (.Name id _) [x,y] [] _=>(wU ns id "max").bind λh1=>.aH (notStar x) λh2=>.aH (notStar y) λh3=>(cE a ns sl x).both (cE b ns sl y) λx y=>pl (Bg hr h1 h2 h3 x.1 y.1) λ_ _=>rfl
  | _=>.n
 | .b1 o a,ns,sl,pe=>match pe with
  | .Call (.Name id _) [x] [] _=>(wU ns id (Fy o)).bind λh1=>.aH (notStar x) λh2=>(cE a ns sl x).map λx=>pl (IH hr h1 h2 x.1) λ_ _=>rfl
  | _=>.n
 | .append a x,ns,sl,pe=>match pe with
  | .Call (.Attribute po name apos) [y] [] pos=>.aH (sEq name "append") λh1=>.aH (aZ po) λh2=>.aH (Nat.beq apos.endLine pos.line) λh3=>.aH (notStar y) λh4=>(cE a ns sl po).both (cE x ns sl y) λx y=>pl (xj h1 h2 h3 h4 x.1 y.1) λ_ _=>rfl
  | _=>.n
 | .extend a x,ns,sl,pe=>match pe with
  | .Call (.Attribute po name apos) [y] [] pos=>.aH (sEq name "extend") λh1=>.aH (aZ po) λh2=>.aH (Nat.beq apos.endLine pos.line) λh3=>.aH (notStar y) λh4=>(cE a ns sl po).both (cE x ns sl y) λx y=>pl (wK h1 h2 h3 h4 x.1 y.1) λ_ _=>rfl
  | _=>.n
 | .split a x,ns,sl,pe=>match pe with
  | .Call (.Attribute po name apos) [y] [] pos=>.aH (sEq name "split") λh1=>.aH (aZ po) λh2=>.aH (Nat.beq apos.endLine pos.line) λh3=>.aH (notStar y) λh4=>(cE a ns sl po).both (cE x ns sl y) λx y=>pl (xQ h1 h2 h3 h4 x.1 y.1) λ_ _=>rfl
  | _=>.n
 | .starts a x,ns,sl,pe=>match pe with
  | .Call (.Attribute po name apos) [y] [] pos=>.aH (sEq name "startswith") λh1=>.aH (aZ po) λh2=>.aH (Nat.beq apos.endLine pos.line) λh3=>.aH (notStar y) λh4=>(cE a ns sl po).both (cE x ns sl y) λx y=>pl (vC h1 h2 h3 h4 x.1 y.1) λ_ _=>rfl
  | _=>.n
 | .join a x,ns,sl,pe=>match pe with
  | .Call (.Attribute po name apos) [y] [] pos=>.aH (sEq name "join") λh1=>.aH (aZ po) λh2=>.aH (Nat.beq apos.endLine pos.line) λh3=>.aH (notStar y) λh4=>(cE a ns sl po).both (cE x ns sl y) λx y=>pl (Bu h1 h2 h3 h4 x.1 y.1) λ_ _=>rfl
  | _=>.n
 | .pop a,ns,sl,pe=>match pe with
  | .Call (.Attribute po name apos) [] [] pos=>.aH (sEq name "pop") λh1=>.aH (aZ po) λh2=>.aH (Nat.beq apos.endLine pos.line) λh3=>(cE a ns sl po).map λx=>pl (Dz h1 h2 h3 x.1) λ_ _=>rfl
  | _=>.n
 | .Dx a k dd,ns,sl,pe=>match pe with
  | .Call (.Attribute po name apos) [y,z] [] pos=>.aH (sEq name "pop") λh1=>.aH (aZ po) λh2=>.aH (Nat.beq apos.endLine pos.line) λh3=>.aH (notStar y) λh4=>.aH (notStar z) λh5=>(cE a ns sl po).bind λx=>(cE k ns sl y).both (cE dd ns sl z) λy z=>pl (A2 h1 h2 h3 h4 h5 x.1 y.1 z.1) λ_ _=>rfl
  | _=>.n
 | .get a k dd,ns,sl,pe=>match pe with
  | .Call (.Attribute po name apos) [y,z] [] pos=>.aH (sEq name "get") λh1=>.aH (aZ po) λh2=>.aH (Nat.beq apos.endLine pos.line) λh3=>.aH (notStar y) λh4=>.aH (notStar z) λh5=>(cE a ns sl po).bind λx=>(cE k ns sl y).both (cE dd ns sl z) λy z=>pl (EM h1 h2 h3 h4 h5 x.1 y.1 z.1) λ_ _=>rfl
  | _=>.n
noncomputable def cO:(o:Option ME)->(ns:bc)->(sl:Slots)->(po:Option Expr)->Ck (Part Ω A C ns sl o po)
 | none,ns,sl,po=>match po with
  | none=>.y Part.none
  | some _=>.n
 | some e,ns,sl,po=>match po with
  | some pe=>(cE e ns sl pe).map λx=>Part.some x.1
  | none=>.n
noncomputable def cT:(o:Option ME)->(ns:bc)->(sl:Slots)->(ps:List Expr)->Ck (pE Ω A C ns sl o ps)
 | none,ns,sl,ps=>match ps with
  | []=>.y .none
  | _::_=>.n
 | some e,ns,sl,ps=>match ps with
  | [pe]=>(cE e ns sl pe).map λx=>.some x.2
  | _=>.n
noncomputable def cs:(es:List ME)->(ns:bc)->(sl:Slots)->(ps:List Expr)->Ck (fU Ω A C ns sl es ps)
 | [],ns,sl,ps=>match ps with
  | []=>.y .nil
  | _::_=>.n
 | e::es,ns,sl,ps=>match ps with
  | p::ps=>.aH (notStar p) λh=>(cE e ns sl p).both (cs es ns sl ps) λx y=>.cons x.1 x.2 h y
  | []=>.n
end
end
noncomputable def TL(sl:Slots)(t:ji)(pt:Expr):Ck (∃tg,c7 t pt=some tg/\∀p∈tg,sl.lookup p.1=some p.2):=match c7 t pt with
 | some tg=>.aH (tg.all λp=>mL (eQ sl p.1) p.2) λk=>.y ⟨tg,rfl,λp hp=>tX (List.all_eq_true.mp k p hp)⟩
 | none=>.n
section
variable{Ω:Cx}{A:Around}{C:jj}{d:Nat}{ns:bc}{sl:Slots}
variable(X:eW Ω)(hr:lF d A)(hC:fc Ω C d)
variable(ns sl)in
noncomputable def WI(e:ME)(pe:Expr):Ck (∀{i:Nat} {id:PySem.Str} {p:Pos} {pos:Pos},sl.lookup id=some i->XS Ω A C ns sl (.asg (.v i) e) (.Assign [.Name id p] pe pos)):=
 match e with
 | .comp m t it test elt=>match pe with
  | .ListComp pelt [⟨ptg,piter,ifs,0⟩] sc _=>.aH (mw piter) λh1=>match ht:c7 t ptg with
   | some tg=>(JZ ns sl sc tg).bind λh2=>(cE X hr hC it ns sl piter).bind λx=>(cT X hr hC test (d7 ns sc.names) (bM sl sc.names tg) ifs).both (cE X hr hC elt (d7 ns sc.names) (bM sl sc.names tg) pelt) λy z=>Ni hr ⟨⟨tg,ht,h2,y,z.1⟩,x.1,h1⟩
   | none=>.n
  | _=>.n
 | e=>.aH (nt pe) λhn=>(cE X hr hC e ns sl pe).map λx=>λhs=>Nj x.1 hs hn
variable(ns sl)in
mutual
noncomputable def cS:(m:MS)->(p:Stmt)->Ck (XS Ω A C ns sl m p)
 | .asg t e,ps=>match ps with
  | .Assign [pt] value _=>match t with
   | .v i=>match pt with
    | .Name id _=>.aH (mL (eQ sl id) i) λh=>(WI ns sl X hr hC e value).map λx=>x (tX h)
    | _=>.n
   | .tup is=>.aH (DM value) λh1=>(TL sl (.tup is) pt).both (cE X hr hC e ns sl value) λh2 x=>h2.elim λtg k=>IJ hr.1 x.1 h1 k.1 k.2
   | .item a k=>match pt with
    | .Subscript o s _=>.aH (iT s) λ_=>(cE X hr hC e ns sl value).bind λx=>(cE X hr hC a ns sl o).both (cE X hr hC k ns sl s) λy z=>FH x.1 y.1 z.1
    | _=>.n
   | .attr a n=>match pt with
    | .Attribute o attr _=>.aH (sEq attr (toS n)) λh=>(cE X hr hC e ns sl value).both (cE X hr hC a ns sl o) λx y=>FJ X x.1 y.1 h
    | _=>.n
  | _=>.n
 | .aug a k e,ps=>match ps with
  | .AugAssign (.Subscript o i _) .Add value _=>.aH (iT i) λh=>(cE X hr hC a ns sl o).bind λx=>(cE X hr hC k ns sl i).both (cE X hr hC e ns sl value) λy z=>Fz x.1 y.1 z.1 h
  | _=>.n
 | .ex e,ps=>match ps with
  | .Expr value _=>.aH (nt value) λh=>(cE X hr hC e ns sl value).map λx=>Iq x.1 h
  | _=>.n
 | .ret e,ps=>match ps with
  | .Return (some v) _=>(cE X hr hC e ns sl v).map λx=>Dr x.1
  | _=>.n
 | .gs e _,ps=>match ps with
  | .Return (some v) _=>(cE X hr hC e ns sl v).map λx=>A1 x.1
  | _=>.n
 | .Dq,ps=>match ps with
  | .Return none _=>.y A0
  | _=>.n
 | .bx c th el,ps=>match ps with
  | .If t b o _=>(cE X hr hC c ns sl t).bind λx=>(Ga th b).both (Ga el o) λy z=>Ez x.2 y z
  | _=>.n
 | .wh c b,ps=>match ps with
  | .While t body [] _=>(cE X hr hC c ns sl t).both (Ga b body) λx y=>Gi x.2 y
  | _=>.n
 | .fr t it b,ps=>match ps with
  | .For pt iter body [] _=>.aH (mw iter) λh1=>(TL sl t pt).bind λh2=>(cE X hr hC it ns sl iter).both (Ga b body) λx y=>h2.elim λtg k=>Il hr x.1 h1 k.1 k.2 y
  | _=>.n
 | .Im t it b,ps=>match ps with
  | .For pt (.Call (.Name id _) [x] [] _) body [] _=>(wU ns id "reversed").bind λh1=>.aH (notStar x) λh2=>(TL sl t pt).bind λh3=>(cE X hr hC it ns sl x).both (Ga b body) λx y=>h3.elim λtg k=>EP hr h1 h2 x.1 k.1 k.2 y
  | _=>.n
 | .cont,ps=>match ps with
  | .Continue _=>.y BK
  | _=>.n
 | .brk,ps=>match ps with
  | .Break _=>.y Fq
  | _=>.n
 | .kP _ _,_=>.n
 | .fj _ _,_=>.n
 | .nW _,_=>.n
noncomputable def Ga:(m:List MS)->(p:List Stmt)->Ck (xl Ω A C ns sl m p)
 | [],ps=>match ps with
  | []=>.y Ke
  | _::_=>.n
 | m::r,ps=>match m,(λp=>cS m p)with
  | .kP i ks,_=>match sl.find? λp=>Nat.beq p.2 i with
   | some p=>.aH (mL (eQ sl p.1) i) λh=>(Ga r ps).map λx=>p7 (Ig (tX h)) x
   | none=>.n
  | .fj i k,_=>(Ga r ps).map λx=>p7 EJ x
  | .nW i,_=>(Ga r ps).map λx=>p7 EN x
  | m,k=>match ps with
   | p::ps=>(k p).both (Ga r ps) λx y=>Gg x y
   | []=>.n
end
end
theorem pb{α β:Type}(a:α)(f:α->Sem β):(pure a >>=f)=f a:=rfl
theorem vq{β:Type}{n:PySem.Str}{v:β}{ns:List PySem.Str}{vs:List β}:(n::ns).zip (v::vs)=(n,v)::ns.zip vs:=rfl
theorem zip_get{β:Type}(ns:List PySem.Str):∀{vs:List β} {i:Nat} {n:PySem.Str} {v:β},ns.Nodup->ns[i]?=some n->vs[i]?=some v->(ns.zip vs).lookup n=some v:=
 List.rec (motive:=λns=>∀{vs:List β} {i:Nat} {n:PySem.Str} {v:β},ns.Nodup->ns[i]?=some n->vs[i]?=some v->(ns.zip vs).lookup n=some v) (λ_ h=>nomatch h) (λm ns ih vs i n v nd h1 h2=>match vs,i,h1,h2 with
  | u::vs,0,h1,h2=>by rw [<-ay (show some m=some n from h1),<-ay (show some u=some v from h2),vq];exact ez _ _ _
  | u::vs,i + 1,h1,h2=>by rw [vq,ij λq:n=m=>(List.nodup_cons.mp nd).1 (q▸List.mem_of_getElem? (show ns[i]?=some n from h1))];exact ih (List.nodup_cons.mp nd).2 h1 h2) ns
theorem Ct{β:Type}{ns:List PySem.Str}{vs:List β}(nd:ns.Nodup)(hl:vs.length=ns.length){n:PySem.Str}(h:n∈ns):((ns.zip vs).lookup n).isNone=false:=by
 obtain ⟨i,hi⟩:=List.mem_iff_getElem?.mp h
 rw [zip_get ns nd hi (List.getElem?_eq_getElem (hl▸(List.getElem?_eq_some_iff.mp hi).1))];rfl
theorem Cu{ns:List PySem.Str}(l:List (PySem.Str×Value)):∀{vs:List Value},vs.length=ns.length->(∀p∈ns.zip vs,l.lookup p.1=some p.2)->(ns.filterMap λn=>(l.lookup n).map (n,·))=ns.zip vs:=
 List.rec (motive:=λns=>∀{vs:List Value},vs.length=ns.length->(∀p∈ns.zip vs,l.lookup p.1=some p.2)->(ns.filterMap λn=>(l.lookup n).map (n,·))=ns.zip vs) (λ_ _=>rfl) (λn ns ih vs hl h=>match vs,hl,h with
  | v::vs,hl,h=>by
   rw [List.filterMap_cons,show l.lookup n=some v from h (n,v) aF]
   show (n,v)::_=(n,v)::ns.zip vs
   rw [ih (Nat.succ.inj hl) λp hp=>h p (bB _ hp)]) ns
noncomputable def argNames(p:Arguments):List PySem.Str:=p.args.map (·.arg)
theorem Io{α β γ:Type}{l:List α}{b:β}{f:α->β->Sem (ForInStep β)}{k:β->Sem γ}{R:Sem γ}(h:l=[])(q:k b=R):(forIn l b f >>=k)=R:=by cases h;exact q
noncomputable abbrev aN(ar:List Arg):List PySem.Str:=ar.map (·.arg)
theorem rA{fd:FuncData}{vals:List Value}(h1:fd.params.posonlyargs=[])(h2:fd.params.vararg=none)(h3:fd.params.kwonlyargs=[])(h4:fd.params.kwarg=none)(h5:fd.defaults= .none)
  (hl:vals.length=(argNames fd.params).length) (nd:(argNames fd.params).Nodup):bindArgs fd ⟨vals,[]⟩=pure ((argNames fd.params).zip vals):=by
 obtain ⟨nm,qn,⟨po,ar,va,ko,kd,kw,df⟩,body,sc,gl,cl,dv,kdv,doc,pm,an,cd,ct,bl⟩:=fd
 cases h1;cases h2;cases h3;cases h4;cases h5
 have hl:vals.length=(aN ar).length:=hl
 have nd:(aN ar).Nodup:=nd
 show _=pure ((aN ar).zip vals)
 have hd:(List.drop (0 - (aN ar).length) ([]:List Value))=[]:=List.drop_nil
 have hm:(List.filter (λn=>(List.lookup n ((aN ar).zip vals)).isNone) (List.take ((aN ar).length - (List.drop (0 - (aN ar).length) ([]:List Value)).length) (aN ar)))=[]:=by
  rw [hd,List.filter_eq_nil_iff]
  intro n hn
  rw [Ct nd hl (List.mem_of_mem_take hn)];decide
 refine (if_neg (c:=(decide (vals.length > (aN ar).length)&&true)=true) ?_).trans ?_
 ·rw [hl];simp
 refine (if_neg (c:=(!(List.filter (λn=>(List.lookup n ((aN ar).zip vals)).isNone) (List.take ((aN ar).length - (List.drop (0 - (aN ar).length) ([]:List Value)).length) (aN ar))).isEmpty)=true) ?_).trans ?_
 ·rw [hm];decide
 refine Io (l:=((aN ar).drop ((aN ar).length - (List.drop (0 - (aN ar).length) ([]:List Value)).length)).zip (List.drop (0 - (aN ar).length) ([]:List Value))) (by rw [hd,List.zip_nil_right]) ?_
 show (pure (((aN ar)++[]).filterMap λn=>(((aN ar).zip vals).lookup n).map (n,·)):Sem (List (PySem.Str×Value)))=pure ((aN ar).zip vals)
 rw [cY,Cu _ hl λp hp=>by
  obtain ⟨i,hi⟩:=List.mem_iff_getElem?.mp hp
  have k:=List.getElem?_zip_eq_some.mp hi
  exact zip_get _ nd k.1 k.2]
theorem yR(names:bc):∀(k:Nat) (acc:List (PySem.Str×Addr)),(names.map (·.1)).Nodup->(acc.map (·.1)).Nodup->(∀x∈names.map (·.1),x∉acc.map (·.1))->((cellsFrom k names acc).map (·.1)).Nodup:=
 List.rec (motive:=λnames:bc=>∀(k:Nat) (acc:List (PySem.Str×Addr)),(names.map (·.1)).Nodup->(acc.map (·.1)).Nodup->(∀x∈names.map (·.1),x∉acc.map (·.1))->((cellsFrom k names acc).map (·.1)).Nodup) (λ_ _ _ h _=>h) (λp r ih k acc nd ha hd=>by
  have nd:=List.nodup_cons.mp nd
  unfold cellsFrom
  split
  ·exact ih _ _ nd.2 (List.nodup_cons.mpr ⟨hd _ aF,ha⟩) λx hx q=>(List.mem_cons.mp q).elim (λq=>nd.1 (q▸hx)) (hd x (bB _ hx))
  ·exact ih _ _ nd.2 ha λx hx=>hd x (bB _ hx)) names
theorem rz{n:PySem.Str}(names:bc):∀(k:Nat) (acc:List (PySem.Str×Addr)),((n,NameKind.cell)∈names\/n∈acc.map (·.1))->n∈(cellsFrom k names acc).map (·.1):=
 List.rec (motive:=λnames:bc=>∀(k:Nat) (acc:List (PySem.Str×Addr)),((n,NameKind.cell)∈names\/n∈acc.map (·.1))->n∈(cellsFrom k names acc).map (·.1)) (λ_ _ h=>h.elim (λh=>nomatch h) id) (λp r ih k acc h=>by
  unfold cellsFrom
  split
  ·exact ih _ _ (h.elim (λh=>(List.mem_cons.mp h).elim (λq=>.inr (q▸aF)) .inl) λh=>.inr (bB _ h))
  ·rename_i hk
   exact ih _ _ (h.elim (λh=>(List.mem_cons.mp h).elim (λq=>absurd (by rw [<-q];rfl) hk) .inl) .inr)) names
theorem wo{β:Type}{n:PySem.Str}(l:List (PySem.Str×β)):n∈l.map (·.1)->∃b,l.lookup n=some b:=List.rec (motive:=λl=>n∈l.map (·.1)->∃b,l.lookup n=some b) (λh=>nomatch h) (λp r ih h=>by
 by_cases e:n=p.1
 ·exact ⟨p.2,e▸ez _ _ _⟩
 ·exact (ih ((List.mem_cons.mp h).resolve_left e)).imp λb q=>(ij e p.2 r).trans q) l
theorem BX{kindOf:PySem.Str->Option NameKind}{n:PySem.Str}{v:Value}(hk:kindOf n=some .local)(binds:List (PySem.Str×Value)):∀{m:PySem.Str->Option Value},(binds.map (·.1)).Nodup->((n,v)∈binds\/(n∉binds.map (·.1)/\m n=some v))->PySem.bindL kindOf binds m n=some v:=
 List.rec (motive:=λbinds=>∀{m:PySem.Str->Option Value},(binds.map (·.1)).Nodup->((n,v)∈binds\/(n∉binds.map (·.1)/\m n=some v))->PySem.bindL kindOf binds m n=some v) (λ_ h=>h.elim (λh=>nomatch h) (·.2)) (λp r ih m nd h=>by
  have nd:=List.nodup_cons.mp nd
  unfold PySem.bindL
  refine ih nd.2 (h.elim (λh=>(List.mem_cons.mp h).elim (λq=>.inr ?_) .inl) λh=>.inr ⟨λq=>h.1 (bB _ q),?_⟩)
  ·rw [<-q]at nd ⊢
   exact ⟨nd.1,by rw [if_pos hk];exact if_pos rfl⟩
  ·split
   ·exact (if_neg λq=>h.1 (List.mem_cons.mpr (.inl q))).trans h.2
   ·exact h.2) binds
theorem BY{kindOf:PySem.Str->Option NameKind}{n:PySem.Str}{v:Value}(hk:kindOf n=some .cell)(binds:List (PySem.Str×Value)):∀{m:PySem.Str->Option Value},(binds.map (·.1)).Nodup->((n,v)∈binds\/(n∉binds.map (·.1)/\m n=some v))->PySem.bindC kindOf binds m n=some v:=
 List.rec (motive:=λbinds=>∀{m:PySem.Str->Option Value},(binds.map (·.1)).Nodup->((n,v)∈binds\/(n∉binds.map (·.1)/\m n=some v))->PySem.bindC kindOf binds m n=some v) (λ_ h=>h.elim (λh=>nomatch h) (·.2)) (λp r ih m nd h=>by
  have nd:=List.nodup_cons.mp nd
  unfold PySem.bindC
  refine ih nd.2 (h.elim (λh=>(List.mem_cons.mp h).elim (λq=>.inr ?_) .inl) λh=>.inr ⟨λq=>h.1 (bB _ q),?_⟩)
  ·rw [<-q]at nd ⊢
   exact ⟨nd.1,by rw [if_neg (by rw [hk];decide)];exact if_pos rfl⟩
  ·split
   ·exact h.2
   ·exact (if_neg λq=>h.1 (List.mem_cons.mpr (.inl q))).trans h.2) binds
noncomputable def cV:List PySem.Str->Nat->Slots
 | [],_=>[]
 | n::r,i=>(n,i)::cV r (i + 1)
theorem qm{n:PySem.Str}{i:Nat}(l:List PySem.Str):∀{k:Nat},(cV l k).lookup n=some i->∃j,i=k + j/\l[j]?=some n:=List.rec (motive:=λl=>∀{k:Nat},(cV l k).lookup n=some i->∃j,i=k + j/\l[j]?=some n) (λh=>nomatch h) (λm l ih k h=>by
 by_cases e:n=m
 ·rw [e]at h ⊢
  have h:List.lookup m ((m,k)::cV l (k + 1))=some i:=h
  rw [ez]at h
  exact ⟨0,(ay h).symm,rfl⟩
 ·obtain ⟨j,j1,j2⟩:=ih ((ij e k (cV l (k + 1))).symm.trans h)
  exact ⟨j + 1,j1.trans (by rw [Nat.add_assoc,Nat.add_comm 1]),j2⟩) l
theorem FC{n:PySem.Str}(l:List PySem.Str):∀{k i:Nat},l.Nodup->l[i]?=some n->(cV l k).lookup n=some (k + i):=List.rec (motive:=λl=>∀{k i:Nat},l.Nodup->l[i]?=some n->(cV l k).lookup n=some (k + i)) (λ_ h=>nomatch h) (λm l ih k i nd h=>match i,h with
 | 0,h=>by rw [<-ay (show some m=some n from h)];exact ez _ _ _
 | i + 1,h=>(ij (λq:n=m=>(List.nodup_cons.mp nd).1 (q▸List.mem_of_getElem? (show l[i]?=some n from h))) k _).trans ((ih (List.nodup_cons.mp nd).2 h).trans (congrArg some (by rw [Nat.add_assoc,Nat.add_comm 1])))) l
noncomputable def GU:List PySem.Str->List PySem.Str->Bool
 | [],[]=>true
 | a::x,b::y=>sEq a b&&GU x y
 | _,_=>false
theorem GS(a:List PySem.Str):∀{b},GU a b=true->a=b:=List.rec (motive:=λa=>∀{b},GU a b=true->a=b) (λ{b} h=>match b,h with
 | [],_=>rfl) (λx a ih b h=>match b,h with
 | [],h=>nomatch h
 | y::b,h=>by rw [iF (mQ h).1,ih (mQ h).2]) a
section
variable{Ω:Cx}{d:Nat}
structure Ua(K:Frag)(fd:FuncData)(fn:Fn)(vars:List Sx):Prop where
 gl:fd.globals=mainGlobals
 bl:fd.builtins=builtinsNs
 U3:fd.closure=[]
 kind:fd.scope.kind= .function
 co:fd.scope.isCoroutine=false
 gen:fd.scope.isGenerator=false
 nd:(fd.scope.names.map (·.1)).Nodup
 po:fd.params.posonlyargs=[]
 va:fd.params.vararg=none
 ko:fd.params.kwonlyargs=[]
 kw:fd.params.kwarg=none
 df:fd.defaults= .none
 args:argNames fd.params=(vars.take fn.np).map toS
 np:fn.np<=vars.length
 Se:(vars.map toS).Nodup
 kinds:∀n i,(cV (vars.map toS) 0).lookup n=some i->(fd.scope.names.lookup n=some .local\/fd.scope.names.lookup n=some .cell)/\(n==("__debug__":PySem.Str))=false
 code:codeIn K fd.code fd.qualname=true
noncomputable def HS:Value->Bool
 | .none=>true
 | _=>false
noncomputable def Wq(K:Frag)(fd:FuncData)(fn:Fn)(vars:List Sx):Ck (Ua K fd fn vars):=
 .aH (Nat.beq fd.globals mainGlobals) λe1=>.aH (Nat.beq fd.builtins builtinsNs) λe2=>.aH fd.closure.isEmpty λe3=>.aH (decide (fd.scope.kind= .function)) λe4=>.aH (!fd.scope.isCoroutine) λe5=>.aH (!fd.scope.isGenerator) λe6=>
 .aH (mz (fd.scope.names.map (·.1))) λe7=>.aH fd.params.posonlyargs.isEmpty λe8=>.aH fd.params.vararg.isNone λe9=>.aH fd.params.kwonlyargs.isEmpty λe10=>.aH fd.params.kwarg.isNone λe11=>.aH (HS fd.defaults) λe12=>
 .aH (GU (argNames fd.params) ((vars.take fn.np).map toS)) λe13=>.aH (Nat.ble fn.np vars.length) λe14=>.aH (mz (vars.map toS)) λe15=>.aH ((cV (vars.map toS) 0).all λp=>(dS (eQ fd.scope.names p.1) 0 ||dS (eQ fd.scope.names p.1) 1)&& !sEq p.1 "__debug__") λe16=>.aH (codeIn K fd.code fd.qualname) λe17=>.y
 {gl:=jM e1,bl:=jM e2,U3:=List.isEmpty_iff.mp e3,kind:=of_decide_eq_true e4,co:=oH e5,gen:=oH e6,nd:=kZ _ e7,po:=List.isEmpty_iff.mp e8,va:=Option.isNone_iff_eq_none.mp e9,ko:=List.isEmpty_iff.mp e10,kw:=Option.isNone_iff_eq_none.mp e11
  df:=by revert e12;cases fd.defaults <;> first | exact λ_=>rfl | exact λe=>nomatch e
  args:=GS _ e13,np:=bY e14,Se:=kZ _ e15
  kinds:=λn i h=>have k:=mQ (List.all_eq_true.mp e16 _ (lookup_mem _ h));⟨(Bool.or_eq_true_iff.mp k.1).imp (λk=>(eP ..).symm.trans (Jw k)) λk=>(eP ..).symm.trans (Jv k),by rw [<-oB];exact oH k.2⟩
  code:=e17}
noncomputable def Vn(Ω:Cx)(A:Around)(C:jj)(a:Addr)(fn:Fn)(vars:List Sx):Prop:=∃fd,(∃oc od sl,Ω.K.lookup a=some ⟨oc,od,.func fd,sl⟩)/\Ua Ω.K fd fn vars/\∃body,fd.body= .stmts body/\xl Ω A C fd.scope.names (cV (vars.map toS) 0) fn.body body
noncomputable def cB{A:Around}{C:jj}(X:eW Ω)(hr:lF d A)(hC:fc Ω C d)(nsc:bc)(fn:Fn)(vars:List Sx):(b:FuncBody)->Ck (∃body,b= .stmts body/\xl Ω A C nsc (cV (vars.map toS) 0) fn.body body)
 | .stmts body=>(Ga _ _ X hr hC fn.body body).map λx=>⟨body,rfl,x⟩
 | _=>.n
noncomputable def cF{A:Around}{C:jj}(X:eW Ω)(hr:lF d A)(hC:fc Ω C d)(a:Addr)(fn:Fn)(vars:List Sx):Ck (Vn Ω A C a fn vars):=match h:Ω.K.lookup a with
 | some ⟨oc,od,.func fd,sl⟩=>(Wq Ω.K fd fn vars).both (cB X hr hC fd.scope.names fn vars fd.body) λx y=>⟨fd,⟨oc,od,sl,h⟩,x,y⟩
 | _=>.n
noncomputable def FU(Ω:Cx):Prop:=∀f fn,Ω.P.fns f=some fn->∃vars,∀(d:Nat) (A:Around) (C:jj) (X:eW Ω) (hr:lF d A) (hC:fc Ω C d),Vn Ω A C (Ω.fA f) fn vars
end
section
variable{Ω:Cx}{d:Nat}{Kp:Facts}{hp:Hp}{s:Shared}{t:Wl Ω Kp hp s}{A:Around}
theorem Hb{h:Heap}{a:Addr}(ha:h.objs.size<=a):h.get? a=none:=by
 cases q:h.get? a with
 | none=>rfl
 | some o=>exact absurd (Heap.lt_size q) (Nat.not_lt.mpr ha)
theorem Mx{p:FE}{h:Hp}{r:aa×Hp}{P:Prop}(e:Qv p h=some r)(q1:∀v,p.1= .ret v->some (v,h)=some r->P)(q2:p.1= .next->some (.none,h)=some r->P):P:=by
 obtain ⟨fl,me⟩:=p
 cases fl with
 | ret v=>exact q1 v rfl e
 | next=>exact q2 rfl e
 | _=>cases e
theorem yS{fd:FuncData}{fn:Fn}{vars:List Sx}{fa:Addr}{xs:List aa}{vs:List Value}{s1:Shared}(M:Ua Ω.K fd fn vars)(V:fT Ω t.Φ t.σ vs xs)(hlen:xs.length=fn.np)(nda:(argNames fd.params).Nodup)(bkeys:((argNames fd.params).zip vs).map (·.1)=argNames fd.params)
  (X:InCallC s s.heap.objs.size (PySem.bindL (callEnvC fd s.heap.objs.size fa).kindOf ((argNames fd.params).zip vs) λ_=>none) (cellsFrom (s.heap.objs.size + 1) fd.scope.names []) (PySem.bindC (callEnvC fd s.heap.objs.size fa).kindOf ((argNames fd.params).zip vs) λ_=>none) s1) (t1:Wl Ω Kp hp s1) (l1:t.le t1) (e1:t1.Φ=t.Φ) (e2:t1.σ=t.σ):
  Ok t1 fd.scope.names (cV (vars.map toS) 0) (callEnvC fd s.heap.objs.size fa) (s.heap.objs.size::(cellsFrom (s.heap.objs.size + 1) fd.scope.names []).map (·.2)) (xs++List.replicate (fn.nv - fn.np) .undef):=by
 have have_:∀{n},fd.scope.names.lookup n=some .cell->∃c,(cellsFrom (s.heap.objs.size + 1) fd.scope.names []).lookup n=some c:=λ{n} h=>wo _ (rz _ _ _ (.inl (lookup_mem _ h)))
 have nokey:∀c,s.heap.objs.size<=c->Un t1.Φ Kp t1.σ hp c:=λc hc=>by rw [e1,e2];exact t.S.ff (Hb hc)
 have ndc:((cellsFrom (s.heap.objs.size + 1) fd.scope.names []).map (·.1)).Nodup:=yR _ _ _ M.nd List.nodup_nil λ_ _ h=>nomatch h
 have cell_own:∀n c,(cellsFrom (s.heap.objs.size + 1) fd.scope.names []).lookup n=some c->c∈s.heap.objs.size::(cellsFrom (s.heap.objs.size + 1) fd.scope.names []).map (·.2):=λn c h=>bB _ (List.mem_map.mpr ⟨(n,c),lookup_mem _ h,rfl⟩)
 refine ⟨rfl,λn i h=>(M.kinds n i h).1.imp_right λh=>⟨h,λc hc=>cell_own n c hc⟩,⟨λb hb=>nokey b ?_,aF,M.kind,M.gl,M.bl,λn i h=>(M.kinds n i h).2,λn n' i h h'=>?_,λn n' c _ h h'=>name_of_addr X.apart (lookup_mem _ h) (lookup_mem _ h'),λb hb=>?_,_,PySem.bindC (callEnvC fd s.heap.objs.size fa).kindOf ((argNames fd.params).zip vs) (λ_=>none),X.toInCall.ns,λn h=>?_,λn i x h1 h2 h3=>?_⟩⟩
 ·refine (List.mem_cons.mp hb).elim (λq=>q▸aO _) λhb=>(List.mem_map.mp hb).elim λp k=>k.2▸Nat.le_of_lt (X.above p.1 p.2 k.1)
 ·obtain ⟨j,j1,j2⟩:=qm _ h
  obtain ⟨k,k1,k2⟩:=qm _ h'
  obtain rfl:j=k:=Nat.add_left_cancel (j1.symm.trans k1)
  exact ay (j2.symm.trans k2)
 ·refine (List.mem_cons.mp hb).elim (λq=>q▸X.toInCall.ns.imp λo k=>k.elim λ_ k=>k.elim λ_ k=>k.1) λhb=>(List.mem_map.mp hb).elim λp k=>?_
  exact k.2▸(X.cell p.1 p.2 (mem_lookup _ ndc k.1)).imp λo k=>k.1
 ·obtain ⟨c,hc⟩:=have_ h
  obtain ⟨o,e,d⟩:=X.cell n c hc
  exact ⟨c,o,hc,e,d,.inl (cell_own n c hc)⟩
 ·have hi:i < xs.length:=by
   refine Classical.byContradiction λc=>h3 ?_
   rw [List.getElem?_append_right (Nat.not_lt.mp c)]at h2
   exact (List.mem_replicate.mp (List.mem_of_getElem? h2)).2
  rw [List.getElem?_append_left hi]at h2
  obtain ⟨v,hv,r⟩:=V.get h2
  refine ⟨v,r.mono l1.l l1.r,?_⟩
  obtain ⟨j,j1,j2⟩:=qm _ h1
  rw [Nat.zero_add]at j1
  have hn:(argNames fd.params)[i]?=some n:=by rw [M.args,List.map_take,List.getElem?_take_of_lt (hlen▸hi),j1];exact j2
  have hm:(n,v)∈(argNames fd.params).zip vs:=List.mem_of_getElem? (i:=i) (List.getElem?_zip_eq_some.mpr ⟨hn,hv⟩)
  exact (M.kinds n i h1).1.imp (λh=>⟨h,BX h _ (by rw [bkeys];exact nda) (.inl hm)⟩) λh=>⟨h,BY h _ (by rw [bkeys];exact nda) (.inl hm)⟩
theorem BR(X:eW Ω)(hf:FU Ω)(hC:fc Ω (aM Ω.P d) d):fc Ω (aM Ω.P (d + 1)) (d + 1):=λ{A} hA {f xs Kp hp s} t {vs} V x hp' e E Q q R hR=>
 pf e λfn hfn e=>JP e λhlen e=>ed e λp h2 e2 e3=>by
 have hlen:=jM hlen
 obtain ⟨vars,hok⟩:=hf f fn hfn
 have hr2:∀fd,lF d (A.deeper (callEnvC fd s.heap.objs.size (Ω.fA f))):=λfd=>⟨hA.1,by show A.depth + 1 + 2 * d + 3<=_;have:=hA.2.1;omega,by show A.units + 3 + 72 + 16 * d < _;have:=hA.2.2;omega⟩
 obtain ⟨fd,⟨oc,od,osl,hK⟩,M, -⟩:=hok _ _ _ X (hr2 default) hC
 obtain ⟨fd',⟨oc',od',osl',hK'⟩, -,body,hb,X'⟩:=hok _ _ _ X (hr2 fd) hC
 obtain rfl:fd'=fd:=by
  have k:=congrArg Obj.data (ay (hK'.symm.trans hK))
  exact Data.func.inj k
 have hvl:vs.length=(argNames fd'.params).length:=by rw [V.length,hlen,M.args,List.length_map,List.length_take,Nat.min_eq_left M.np]
 have nda:(argNames fd'.params).Nodup:=by rw [M.args,List.map_take];exact M.Se.sublist (List.take_sublist _ _)
 have bkeys:((argNames fd'.params).zip vs).map (·.1)=argNames fd'.params:=List.map_fst_zip (Nat.le_of_eq hvl.symm)
 refine codeAny_call_cells (fd:=fd') (body:=body) (binds:=(argNames fd'.params).zip vs) (by have:=hA.2.1;omega) (t.lG _ _ hK) rfl (t.B.nolimit.keeps t.old) (codeRec_of t.lG M.code) hb
  (rA M.po M.va M.ko M.kw M.df hvl nda) M.U3 (λb hb=>?_) (λs1 XX=>?_) M.co M.gen M.kind
 ·obtain ⟨i,hi⟩:=List.mem_iff_getElem?.mp (List.of_mem_zip hb).1
  have hi2:(vars.map toS)[i]?=some b.1:=by
   rw [M.args,List.map_take]at hi
   have k:=(List.getElem?_eq_some_iff.mp hi).1
   rw [List.length_take]at k
   rwa [List.getElem?_take_of_lt (eG k (Nat.min_le_left _ _))]at hi
  exact (M.kinds b.1 _ (FC (k:=0) _ M.Se hi2)).1.imp_right λh=>⟨h,by obtain ⟨c,hc⟩:=wo _ (rz _ (s.heap.objs.size + 1) [] (.inl (lookup_mem _ h)));rw [hc];rfl⟩
 ·obtain ⟨h1,tk1,hs1⟩:=XX.toInCall.same
  have O:=yS M V hlen nda bkeys XX ⟨t.Φ,t.σ,t.B,t.g,t.S.ext XX.toInCall.keep⟩ ⟨⟨h1,tk1,hs1⟩,.refl,.refl⟩ rfl rfl
  refine X' O p h2 e2 _ _ λfl s' t' l' O' fr=>hR _ _ (Mx e3 (λv ev e3=>?_) λev e3=>?_)
  ·rw [ev]at fr
   cases fr with
   | ret Vr=>exact jP (P:=λx hp'=>(∀v s' (t':Wl Ω Kp hp' s'),t.le t'->VR Ω t'.Φ t'.σ v x->Q v s')->Q _ s') e3 (λq=>q _ s' t' (Wl.le.trans ⟨⟨h1,tk1,hs1⟩,.refl,.refl⟩ l') Vr) q
  ·rw [ev]at fr
   cases fr
   exact jP (P:=λx hp'=>(∀v s' (t':Wl Ω Kp hp' s'),t.le t'->VR Ω t'.Φ t'.σ v x->Q v s')->Q _ s') e3 (λq=>q _ s' t' (Wl.le.trans ⟨⟨h1,tk1,hs1⟩,.refl,.refl⟩ l') .none) q
theorem Fh(X:eW Ω)(hf:FU Ω)(d:Nat):fc Ω (aM Ω.P d) d:=Nat.rec (motive:=λd=>fc Ω (aM Ω.P d) d) (λ{_} _ {_ _ _ _ _} _ {_} _ x hp' e=>aA e) (λd k=>BR X hf k) d
end
end Mn
end
section
set_option genInjectivity false
namespace Mn.Q
set_option autoImplicit true
structure cM where
 g:Nat
 rx:aa
 rq:Bool
 rl:List aa
 rt:FE
 rh:Hp
 al:Bool
 P:Prop
 e:P
noncomputable def Fact(d:Nat):Type:=cM
structure Ts where
 h:Hp
 fs:List cM
 o:List (Prop×Prop)
noncomputable abbrev TM(α:Type):=Ts->Option (α×Ts)
noncomputable def F9:Hp:=⟨[],[],0⟩
noncomputable def Fact.c{d:Nat}{f:Nat}{xs:List aa}{h:Hp}{r:aa×Hp}(e:aM pg d f xs h=some r):Fact d:=(⟨104,r.1,true,[],(.next,[]),r.2,true,_,e⟩:cM)
noncomputable def Fact.b{d':Nat}{x y:Bool}(e:x=y):Fact d':=(⟨100,.none,y,[],(.next,[]),F9,true,_,e⟩:cM)
noncomputable def Fact.d{d':Nat}{x y:Bool}(e:x=y):Fact d':=(⟨110,.none,y,[],(.next,[]),F9,true,_,e⟩:cM)
noncomputable def Fact.n{d':Nat}{k:Nat}(e:k < LF):Fact d':=(⟨101,.none,true,[],(.next,[]),F9,true,_,e⟩:cM)
noncomputable def Fact.u{d':Nat}{x:aa}(e:gj x=true):Fact d':=(⟨105,.none,true,[],(.next,[]),F9,true,_,e⟩:cM)
noncomputable def Fact.v{d':Nat}(g:Nat){p:Hp->Option aa}{z:aa}(e:∀h,p h=some z):Fact d':=(⟨g,z,true,[],(.next,[]),F9,true,_,e⟩:cM)
noncomputable def Fact.w{d':Nat}(g:Nat){X:Option aa}{z:aa}(e:X=some z):Fact d':=(⟨g,z,true,[],(.next,[]),F9,false,_,e⟩:cM)
noncomputable def Fact.q{d':Nat}(g:Nat){p:Hp->Option Bool}{z:Bool}(e:∀h,p h=some z):Fact d':=(⟨g,.none,z,[],(.next,[]),F9,true,_,e⟩:cM)
noncomputable def Fact.p{d':Nat}(g:Nat){X:Option Bool}{z:Bool}(e:X=some z):Fact d':=(⟨g,.none,z,[],(.next,[]),F9,false,_,e⟩:cM)
noncomputable def Fact.a{d':Nat}(g:Nat){X:Option (aa×Hp)}{r:aa×Hp}(e:X=some r):Fact d':=(⟨g,r.1,true,[],(.next,[]),r.2,false,_,e⟩:cM)
noncomputable def Fact.t{d':Nat}{X:Option (FE×Hp)}{r:FE×Hp}(e:X=some r):Fact d':=(⟨102,.none,true,[],r.1,r.2,true,_,e⟩:cM)
noncomputable def Fact.m{d':Nat}{X:Option (List aa×Hp)}{r:List aa×Hp}(e:X=some r):Fact d':=(⟨103,.none,true,r.1,(.next,[]),r.2,true,_,e⟩:cM)
noncomputable def Fact.x{d':Nat}{h h':Hp}{v:aa}(e:h.del v=h'):Fact d':=(⟨18,.none,true,[],(.next,[]),h',false,_,e⟩:cM)
noncomputable def Fact.s{d':Nat}(g n:Nat):Fact d':=(⟨1000 + g,.int n,true,[],(.next,[]),F9,true,True,trivial⟩:cM)
noncomputable def skip(f:cM)(fs:List cM):List cM:=f.rx.gu (λn=>bif Nat.ble n.toNat 1 then fs else ⟨f.g,.int (n - 1),true,[],(.next,[]),F9,true,True,trivial⟩::fs) fs
section
variable{α β:Type}
noncomputable def ret(a:α):TM α:=λs=>some (a,s)
noncomputable def jv:TM α:=λ_=>none
noncomputable def bE(m:TM α)(k:α->TM β):TM β:=λs=>match m s with
 | some (a,s)=>k a s
 | none=>none
noncomputable def xr(o:Option α)(k:α->TM β):TM β:=match o with
 | some a=>k a
 | none=>jv
noncomputable def Cp(b:Bool)(m:TM α):TM α:=bif b then m else jv
noncomputable def wH(q:Bool)(m n:TM α):TM α:=match q with
 | true=>m
 | false=>n
noncomputable def md(p:HM α):TM α:=λs=>match p s.h with
 | some (a,h)=>some (a,⟨h,s.fs,s.o⟩)
 | none=>none
noncomputable def hk(g:Nat)(r:cM->α)(nh:cM->Hp->Hp)(D:cM->Hp->Prop)(d:TM α):TM α:=λs=>match s.fs with
 | []=>d s
 | f::fs=>bif Nat.beq f.g g then some (r f,⟨nh f s.h,fs,(f.P,D f s.h)::s.o⟩)else bif Nat.beq f.g (1000 + g)then d ⟨s.h,skip f fs,s.o⟩else d s
noncomputable def vT(g:Nat)(p:Hp->Option aa):TM aa:=hk g (·.rx) (λ_ h=>h) (λf s=>bif f.al then ∀h,p h=some f.rx else p s=some f.rx) (md (lO p))
noncomputable def qT(g:Nat)(p:Hp->Option Bool):TM Bool:=hk g (·.rq) (λ_ h=>h) (λf s=>bif f.al then ∀h,p h=some f.rq else p s=some f.rq) (md (lO p))
noncomputable def xT(g:Nat)(p:HM aa)(d:TM aa):TM aa:=hk g (·.rx) (λf _=>f.rh) (λf s=>p s=some (f.rx,f.rh)) d
noncomputable def aT(g:Nat)(p:HM aa):TM aa:=xT g p (md p)
noncomputable def NQ(o:Option aa):TM aa:=hk 7 (·.rx) (λ_ h=>h) (λf _=>o=some f.rx) (xr o ret)
noncomputable def bT(b:Bool):TM Bool:=hk 100 (·.rq) (λ_ h=>h) (λf _=>b=f.rq) (ret b)
noncomputable def dT(b:Bool):TM Bool:=hk 110 (·.rq) (λ_ h=>h) (λf _=>b=f.rq) (ret b)
noncomputable def nT(k:Nat)(m:TM α):TM α:=bE (hk 101 (λ_=>()) (λ_ h=>h) (λ_ _=>k < LF) (Cp (small k) (ret ()))) λ_=>m
noncomputable def uT(x:aa):TM aa:=hk 105 (λ_=>x) (λ_ h=>h) (λ_ _=>gj x=true) (Cp (gj x) (ret x))
noncomputable def mT(X:HM (List aa))(d:TM (List aa)):TM (List aa):=hk 103 (·.rl) (λf _=>f.rh) (λf s=>X s=some (f.rl,f.rh)) d
noncomputable def tT(X:HM FE)(d:TM FE):TM FE:=hk 102 (·.rt) (λf _=>f.rh) (λf s=>X s=some (f.rt,f.rh)) d
noncomputable def qb(x:aa):TM Bool:=bE (qT 9 λh=>truth h x) bT
noncomputable def RO(o:AG)(x y:aa):TM Bool:=bE (qT 1 λh=>ck h o x y) dT
noncomputable def RI(x:aa)(k:Option ak->TM α):TM α:=λs=>k (s.h.get x) s
noncomputable def U0(x:aa)(m:TM α):TM α:=bE (hk 18 (λ_=>()) (λf _=>f.rh) (λf s=>s.del x=f.rh) (md λh=>some ((),h.del x))) λ_=>m
noncomputable def O6(f:Hp->Hp):TM aa:=λs=>some (.none,⟨f s.h,s.fs,s.o⟩)
noncomputable def KN(a i v:aa):TM aa:=xT 15 (de a i v) <| RI a λo=>
 ie o (λkvs=>i.iH (λs=>nT kvs.length (O6 λh=>h.put a (.sd (sset kvs s v)))) jv) <|
 oF o (λkvs=>i.gu (λk=>nT kvs.length (O6 λh=>h.put a (.eg (kJ kvs k v)))) jv) jv
noncomputable def Q5(l y:aa):TM aa:=xT 17 (cz l y) <| RI l λo=>oL o (λxs=>nT xs.length (O6 λh=>h.put l (.list (xs++[y])))) jv
noncomputable def Qx(l:aa)(ys:List aa):TM aa:=xT 17 (lx l ys) <| RI l λo=>oL o (λxs=>nT (xs.length + ys.length) (O6 λh=>h.put l (.list (xs++ys)))) jv
noncomputable def Uw(x:aa)(k:Option ak->TM α):TM α:=λs=>k (bH s.h x) s
noncomputable def Q9(m:Mode)(x y:aa):TM aa:=hk 2 (·.rx) (λf h=>bif f.al then h else f.rh) (λf s=>bif f.al then ∀h,Cd m x y h=some (f.rx,h)else Cd m x y s=some (f.rx,f.rh)) <|
 x.gu (λa=>y.gu (λb=>ret (.int (a + b))) jv) <|
 x.iH (λa=>y.iH (λb=>nT (a.length + b.length) (ret (.str (a++b)))) jv) <|
 x.vS (λa=>y.vS (λb=>nT (a.length + b.length) (ret (.tup (a++b)))) jv) <|
 Uw x λo=>Uw y λp=>oL o (λa=>oL p (λb=>nT (a.length + b.length) (md (ju m (.list (a++b))))) jv) jv
noncomputable def fq(m:HM FE)(k:Env->HM aa):HM aa:=aL m λp=>match p.1 with
 | .next=>k p.2
 | .ret v=>aj v
 | _=>no
noncomputable def Om(m:TM FE)(k:Env->TM aa):TM aa:=bE m λp=>match p.1 with
 | .next=>k p.2
 | .ret v=>ret v
 | _=>jv
noncomputable def wL(k l:Env->HM aa)(p:FE):HM aa:=match p.1 with
 | .next=>l p.2
 | .cont=>l p.2
 | .brk=>k p.2
 | .ret v=>aj v
noncomputable def MG(k l:Env->TM aa)(p:FE):TM aa:=match p.1 with
 | .next=>l p.2
 | .cont=>l p.2
 | .brk=>k p.2
 | .ret v=>ret v
noncomputable def Jr(t:Env->HM Bool)(b:Env->HM FE)(k:Env->HM aa):Nat->Env->HM aa
 | 0,_=>no
 | n + 1,env=>aL (t env) λq=>gJ q (aL (b env) (wL k (Jr t b k n))) (k env)
noncomputable def JT(t:ji)(b:Env->HM FE)(k:Env->HM aa):List aa->Env->HM aa
 | [],env=>k env
 | x::xs,env=>hY (gq env t x) λenv=>aL (b env) (wL k (JT t b k xs))
noncomputable def PC(t:Env->TM Bool)(b:Env->TM FE)(k:Env->TM aa)(l:Env->TM aa)(env:Env):TM aa:=bE (t env) λq=>wH q (bE (b env) (MG k l)) (k env)
noncomputable def Qs(t:ji)(b:Env->TM FE)(k:Env->TM aa)(l:Env->TM aa)(x:aa)(env:Env):TM aa:=xr (gq env t x) λenv=>bE (b env) (MG k l)
noncomputable def Tc(m:Nat->Env->HM aa)(t:Env->TM Bool)(b:Env->TM FE)(k:Env->TM aa):Nat->Env->TM aa
 | 0,_=>jv
 | n + 1,env=>PC t b k (λenv=>xT 106 (m n env) (Tc m t b k n env)) env
noncomputable def Tb(m:Nat->Env->HM aa)(t:Env->TM Bool)(b:Env->TM FE)(k:Env->TM aa)(n:Nat)(env:Env):TM aa:=xT 106 (m n env) (Tc m t b k n env)
noncomputable def Tw(m:List aa->Env->HM aa)(t:ji)(b:Env->TM FE)(k:Env->TM aa):List aa->Env->TM aa
 | [],env=>k env
 | x::xs,env=>Qs t b k (λenv=>xT 107 (m xs env) (Tw m t b k xs env)) x env
noncomputable def Qu(m:List aa->Env->HM aa)(t:ji)(b:Env->TM FE)(k:Env->TM aa)(xs:List aa)(env:Env):TM aa:=xT 107 (m xs env) (Tw m t b k xs env)
noncomputable def CB(m:TM FE)(k:Env->TM FE):TM FE:=bE m λp=>match p.1 with
 | .next=>k p.2
 | .cont=>k p.2
 | .brk=>ret (.next,p.2)
 | .ret v=>ret (.ret v,p.2)
noncomputable def EU(t:ji)(b:Env->TM FE):List aa->Env->TM FE
 | [],env=>ret (.next,env)
 | x::xs,env=>xr (gq env t x) λenv=>CB (b env) (EU t b xs)
noncomputable def Ru(t:Env->TM Bool)(b:Env->TM FE):Nat->Env->TM FE
 | 0,_=>jv
 | n + 1,env=>bE (t env) λq=>wH q (CB (b env) (Ru t b n)) (ret (.next,env))
noncomputable def IA(f:aa->TM (Option aa)):List aa->TM (List aa)
 | []=>ret []
 | x::xs=>bE (f x) λr=>bE (IA f xs) λys=>ret (oS r (λy=>y::ys) ys)
end
section
variable(C:jj)
noncomputable def cT(f:Nat)(xs:List aa):TM aa:=xT 104 (C f xs) (md (C f xs))
noncomputable def Uy(c:Nat)(h:Hp):Hp:={h with D:=(h.n + 1,.inst c h.n)::(h.n,.ns [])::h.D,n:=h.n + 2}
noncomputable def Ux(c f:Nat)(xs:List aa):TM aa:=λs=>bE (cT C f (.af (s.h.n + 1)::xs)) (λr=>r.vp (ret (.af (s.h.n + 1))) jv) ⟨Uy c s.h,s.fs,s.o⟩
noncomputable def ov(t:ji)(test:Option ME)(elt:ME)(env:Env)(x:aa):HM (Option aa):=hY (gq env t x) λenv'=>aL (MB pg C test env') λq=>gJ q (aL (ev pg C elt env') λy=>aj (some y)) (aj none)
mutual
noncomputable def tv:ME->Env->TM aa
 | .c v,_=>ret v
 | .gc _ v,_=>ret v
 | .v i,env=>xr env[i]? uT
 | .add m a b,env=>bE (tv a env) λx=>bE (tv b env) λy=>Q9 m x y
 | .sub a b,env=>bE (tv a env) λx=>bE (tv b env) λy=>NQ (arith (λx y=>some (x - y)) x y)
 | .mod a b,env=>bE (tv a env) λx=>bE (tv b env) λy=>NQ (arith eZ x y)
 | .fdiv a b,env=>bE (tv a env) λx=>bE (tv b env) λy=>NQ (arith E6 x y)
 | .band a b,env=>bE (tv a env) λx=>bE (tv b env) λy=>NQ (arith Nu x y)
 | .neg a,env=>bE (tv a env) λx=>x.gu (λi=>ret (.int (-i))) jv
 | .not a,env=>bE (tv a env) λx=>bE (qb x) λb=>ret (.bool (!b))
 | .and es,env=>Ot false es env
 | .or es,env=>Ot true es env
 | .ite c a b,env=>bE (tv c env) λx=>bE (qb x) λq=>wH q (tv a env) (tv b env)
 | .cmp o a b,env=>bE (tv a env) λx=>bE (tv b env) λy=>bE (RO o x y) λb=>ret (.bool b)
 | .BP o p a b c,env=>bE (tv a env) λx=>bE (tv b env) λy=>bE (RO o x y) λq=>wH q (bE (tv c env) λz=>bE (RO p y z) λb=>ret (.bool b)) (ret (.bool false))
 | .attr a n,env=>bE (tv a env) λx=>vT 8 λh=>FA pg h x n
 | .item a i,env=>bE (tv a env) λx=>bE (tv i env) λy=>vT 0 λh=>aY h x y
 | .slice a lo hi,env=>bE (tv a env) λx=>bE (Si lo env) λl=>bE (Si hi env) λr=>vT 5 λh=>eK h x l r
 | .tup es,env=>bE (Gm es env) λxs=>ret (.tup xs)
 | .list m es,env=>bE (Gm es env) λxs=>md (ju m (.list xs))
 | .fN m ks es,env=>bE (Gm es env) λxs=>Cp (Nat.beq ks.length xs.length) (md (ju m (.sd ((ks.zip xs).foldl (λd p=>sset d p.1 p.2) []))))
 | .lX m ks es,env=>bE (Gm es env) λxs=>Cp (Nat.beq ks.length xs.length) (md (ju m (.eg ((ks.zip xs).foldl (λd p=>kJ d p.1 p.2) []))))
 | .comp m t it test elt,env=>bE (tv it env) λv=>xr (itemsOf v) λxs=>nT xs.length (bE (mT (dy (ov C t test elt env) xs) (IA (λx=>xr (gq env t x) λenv'=>bE (Uh test env') λq=>wH q (bE (tv elt env') λy=>ret (some y)) (ret none)) xs)) λys=>md (ju m (.list ys)))
 | .call f es,env=>bE (Gm es env) λxs=>cT C f xs
 | .new c es,env=>bE (Gm es env) λxs=>xr (pg.init c) λf=>Ux C c f xs
 | .mB o n es,env=>bE (tv o env) λx=>xr (zS pg x n) λf=>bE (Gm es env) λxs=>cT C f (x::xs)
 | .gW a,env=>bE (tv a env) λx=>x.gu (λn=>Cp (decide (-1048576 < n/\n < 1048576)) (ret (.rT 0 n.toNat))) jv
 | .qr a b,env=>bE (tv a env) λx=>x.gu (λm=>bE (tv b env) λy=>y.gu (λn=>Cp (decide (-1048576 < n/\n < 1048576/\ -1048576 < m/\m < 1048576)) (ret (.rT m (n - m).toNat))) jv) jv
 | .max2 a b,env=>bE (tv a env) λx=>bE (tv b env) λy=>NQ (arith (λx y=>some (if x < y then y else x)) x y)
 | .b1 o a,env=>bE (tv a env) λx=>vT 4 λh=>tw h o x
 | .append a x,env=>bE (tv a env) λl=>bE (qT 16 λh=>some (fF h l)) λb=>Cp b (bE (tv x env) λy=>Q5 l y)
 | .pop a,env=>bE (tv a env) λl=>aT 10 (DA l)
 | .Dx a k d,env=>bE (tv a env) λl=>bE (qT 16 λh=>some (gI h l)) λb=>Cp b (bE (tv k env) λz=>z.iH (λs=>bE (tv d env) λy=>aT 11 (vR l s y)) jv)
 | .extend a b,env=>bE (tv a env) λl=>bE (qT 16 λh=>some (fF h l)) λq=>Cp q (bE (tv b env) λy=>y.pQ (λys=>Qx l ys) jv)
 | .get a k d,env=>bE (tv a env) λx=>bE (qT 16 λh=>some (gI h x)) λq=>Cp q (bE (tv k env) λy=>bE (tv d env) λz=>vT 3 λh=>yF h x y z)
 | .split a b,env=>bE (tv a env) λx=>x.iH (λs=>bE (tv b env) λy=>y.iH (λt=>xr (one? t) λc=>nT s.length (ret (.list ((cN c s).map .str)))) jv) jv
 | .starts a b,env=>bE (tv a env) λx=>x.iH (λs=>bE (tv b env) λy=>y.iH (λt=>ret (.bool (cv t s))) jv) jv
 | .join a b,env=>bE (tv a env) λx=>x.iH (λs=>bE (tv b env) λy=>vT 6 λh=>s8 h s y) jv
noncomputable def Si:Option ME->Env->TM aa
 | none,_=>ret .none
 | some e,env=>tv e env
noncomputable def Gm:List ME->Env->TM (List aa)
 | [],_=>ret []
 | e::es,env=>bE (tv e env) λx=>bE (Gm es env) λxs=>ret (x::xs)
noncomputable def Ot(stop:Bool):List ME->Env->TM aa
 | [],_=>jv
 | e::es,env=>match es with
  | []=>tv e env
  | _::_=>bE (tv e env) λv=>bE (qb v) λb=>bif b==stop then ret v else Ot stop es env
noncomputable def Uh:Option ME->Env->TM Bool
 | none,_=>ret true
 | some e,env=>bE (tv e env) λx=>qb x
end
mutual
noncomputable def tx:MS->Env->TM FE
 | .asg t e,env=>bE (xT 14 (ev pg C e env) (tv C e env)) λx=>match t with
  | .v i=>ret (.next,env.set i x)
  | .tup is=>xr (gq env (.tup is) x) λenv=>ret (.next,env)
  | .item a k=>bE (tv C a env) λo=>bE (tv C k env) λi=>bE (KN o i x) λ_=>ret (.next,env)
  | .attr a n=>bE (tv C a env) λo=>bE (aT 15 (mY pg o n x)) λ_=>ret (.next,env)
 | .aug a k e,env=>bE (tv C a env) λo=>bE (tv C k env) λi=>bE (vT 0 λh=>aY h o i) λz=>z.gu (λold=>bE (tv C e env) λx=>x.gu (λx=>bE (KN o i (.int (old + x))) λ_=>ret (.next,env)) jv) jv
 | .ex e,env=>bE (tv C e env) λ_=>ret (.next,env)
 | .ret e,env=>bE (tv C e env) λx=>ret (.ret x,env)
 | .gs e ks,env=>bE (tv C e env) λx=>bE (aT 12 (yH x ks)) λx=>ret (.ret x,env)
 | .Dq,env=>ret (.ret .none,env)
 | .bx c th el,env=>bE (xT 13 (ev pg C c env) (tv C c env)) λx=>bE (qb x) λq=>wH q (AM th env) (AM el env)
 | .wh c b,env=>tT (exec pg C (.wh c b) env) (Ru (λenv=>bE (tv C c env) qb) (λenv=>AM b env) LF env)
 | .fr t it b,env=>bE (tv C it env) λv=>xr (itemsOf v) λxs=>tT (mO t (λenv=>execs pg C b env) xs env) (EU t (λenv=>AM b env) xs env)
 | .Im t it b,env=>bE (tv C it env) λv=>v.pQ (λxs=>tT (mO t (λenv=>execs pg C b env) xs.reverse env) (EU t (λenv=>AM b env) xs.reverse env)) jv
 | .cont,env=>ret (.cont,env)
 | .brk,env=>ret (.brk,env)
 | .kP i ks,env=>xr env[i]? λv=>bE (aT 12 (yH v ks)) λx=>ret (.next,env.set i x)
 | .fj i k,env=>tT (exec pg C (.fj i k) env) (md (exec pg C (.fj i k) env))
 | .nW i,env=>xr env[i]? λv=>v.FY (λ_=>U0 v (ret (.next,env))) (ret (.next,env))
noncomputable def AM:List MS->Env->TM FE
 | [],env=>ret (.next,env)
 | s::r,env=>bE (tx s env) λp=>match p.1 with
  | .next=>AM r p.2
  | _=>ret p
end
noncomputable def UH(c:ME)(b:List MS)(k:Env->HM aa):Nat->Env->HM aa:=Jr (λenv=>aL (ev pg C c env) dY) (λenv=>execs pg C b env) k
noncomputable def RJ(t:ji)(b:List MS)(k:Env->HM aa):List aa->Env->HM aa:=JT t (λenv=>execs pg C b env) k
mutual
noncomputable def kx:MS->(Env->HM aa)->(Env->TM aa)->Env->TM aa
 | .bx c th el,e,k,env=>bE (xT 13 (ev pg C c env) (tv C c env)) λx=>bE (qb x) λq=>wH q (PJ th e k env) (PJ el e k env)
 | .wh c b,e,k,env=>Tb (UH C c b e) (λenv=>bE (tv C c env) qb) (AM C b) k LF env
 | .fr t it b,e,k,env=>bE (tv C it env) λv=>xr (itemsOf v) λxs=>Qu (RJ C t b e) t (AM C b) k xs env
 | .Im t it b,e,k,env=>bE (tv C it env) λv=>v.pQ (λxs=>Qu (RJ C t b e) t (AM C b) k xs.reverse env) jv
 | s,_,k,env=>Om (tx C s env) k
noncomputable def PJ:List MS->(Env->HM aa)->(Env->TM aa)->Env->TM aa
 | [],_,k,env=>k env
 | s::r,e,k,env=>kx s (λenv=>fq (execs pg C r env) e) (PJ r e k) env
end
end
noncomputable def Vo(o:List (Prop×Prop)):Prop:=o.map (·.1)=o.map (·.2)
section
variable{α β:Type}
noncomputable def bI(m:TM α)(e:HM α):Prop:=∀s a s',m s=some (a,s')->Vo s'.o->Vo s.o/\e s.h=some (a,s'.h)
theorem eH{e:HM α}:bI jv e:=λ_ _ _ h=>nomatch h
theorem aK{a:α}:bI (ret a) (aj a):=λs b s' h E=>by cases h;exact ⟨E,rfl⟩
theorem j6{p:HM α}:bI (md p) p:=λs a s' h E=>by
 have h:(match p s.h with | some (a,h)=>some (a,(⟨h,s.fs,s.o⟩:Ts)) | none=>none)=some (a,s'):=h
 cases q:p s.h with
 | none=>rw [q]at h;cases h
 | some r=>rw [q]at h;cases h;exact ⟨E,rfl⟩
theorem yT{m:HM α}{k:α->HM β}{h h':Hp}{a:α}(e:m h=some (a,h')):aL m k h=k a h':=by unfold aL;rw [e]
theorem ah{m:TM α}{e:HM α}{k:α->TM β}{g:α->HM β}(hm:bI m e)(hk:∀a,bI (k a) (g a)):bI (bE m k) (aL e g):=λs b s' h E=>by
 have h:(match m s with | some (a,s)=>k a s | none=>none)=some (b,s'):=h
 cases q:m s with
 | none=>rw [q]at h;cases h
 | some p=>
  rw [q]at h
  have k2:=hk p.1 p.2 b s' h E
  have k1:=hm s p.1 p.2 q k2.1
  exact ⟨k1.1,(yT k1.2).trans k2.2⟩
theorem gT{o:Option α}{k:α->TM β}{g:α->HM β}(h:∀a,bI (k a) (g a)):bI (xr o k) (hY o g):=match o with
 | some a=>h a
 | none=>eH
theorem j7{b:Bool}{m:TM α}{e:HM α}(h:bI m e):bI (Cp b m) (gd b e):=match b with
 | true=>h
 | false=>eH
theorem mn{b:Bool}{m n:TM α}{e f:HM α}(h:bI m e)(k:bI n f):bI (wH b m n) (gJ b e f):=match b with
 | true=>h
 | false=>k
theorem jR{g:Nat}{r:cM->α}{nh:cM->Hp->Hp}{D:cM->Hp->Prop}{d:TM α}{e:HM α}(k:∀f h,D f h->e h=some (r f,nh f h))(kd:bI d e):bI (hk g r nh D d) e:=λ⟨h,fs,o⟩ a s' q E=>by
 cases fs with
 | nil=>exact kd _ a s' q E
 | cons f fs=>
  have q:(bif Nat.beq f.g g then some (r f,(⟨nh f h,fs,(f.P,D f h)::o⟩:Ts))else bif Nat.beq f.g (1000 + g)then d ⟨h,skip f fs,o⟩else d ⟨h,f::fs,o⟩)=some (a,s'):=q
  cases b:Nat.beq f.g g with
  | true=>
   rw [b]at q;cases q
   exact ⟨(List.cons.inj E).2,k f h ((show f.P=D f h from (List.cons.inj E).1)▸f.e)⟩
  | false=>
   rw [b]at q
   cases c:Nat.beq f.g (1000 + g)with
   | true=>rw [c]at q;exact kd ⟨h,skip f fs,o⟩ a s' q E
   | false=>rw [c]at q;exact kd ⟨h,f::fs,o⟩ a s' q E
theorem Dt{p:Hp->Option α}{h:Hp}{z:α}(e:p h=some z):lO p h=some (z,h):=by unfold lO;rw [e]
theorem J9{b:Bool}{p:Hp->Option α}{h:Hp}{z:α}(e:bif b then ∀h,p h=some z else p h=some z):lO p h=some (z,h):=match b,e with
 | true,e=>Dt (e h)
 | false,e=>Dt e
theorem qj{g:Nat}{p:Hp->Option aa}:bI (vT g p) (lO p):=jR (λf h e=>J9 e) j6
theorem sH{g:Nat}{p:Hp->Option Bool}:bI (qT g p) (lO p):=jR (λf h e=>J9 e) j6
theorem jQ{g:Nat}{p:HM aa}{d:TM aa}(h:bI d p):bI (xT g p d) p:=jR (λf h e=>e) h
theorem vF{g:Nat}{p:HM aa}:bI (aT g p) p:=jQ j6
theorem M4{m:HM α}:aL m aj=m:=funext λh=>by
 unfold aL;cases m h with
 | none=>rfl
 | some p=>rfl
theorem I2{m:TM Bool}{e:HM Bool}{k:Bool->TM Bool}(h:bI m e)(q:∀b,bI (k b) (aj b)):bI (bE m k) e:=(M4:aL e aj=e)▸(ah h q:bI (bE m k) (aL e aj))
theorem OM(b:Bool):bI (bT b) (aj b):=jR (λf h e=>congrArg (λb=>some (b,h)) e) aK
theorem OK(b:Bool):bI (dT b) (aj b):=jR (λf h e=>congrArg (λb=>some (b,h)) e) aK
theorem mW{n:Nat}{m:TM α}{e:HM α}(k:bI m e):bI (nT n m) (sm n e):=
 (funext λh=>by unfold aL sm gd;cases small n <;> rfl:aL (gd (small n) (aj ())) (λ_=>e)=sm n e)▸ah (jR (λf h q=>by unfold gd;rw [show small n=true from decide_eq_true q];rfl) (j7 aK)) λ_=>k
theorem qk{o:Option aa}:bI (NQ o) (hY o aj):=jR (λf h q=>by rw [q];rfl) (gT λz=>aK)
theorem OG{x:aa}:bI (uT x) (gd (gj x) (aj x)):=jR (λf h q=>by unfold gd;rw [q];rfl) (j7 aK)
theorem OI{X:HM (List aa)}{d:TM (List aa)}(h:bI d X):bI (mT X d) X:=jR (λf h e=>e) h
theorem zz{X:HM FE}{d:TM FE}(h:bI d X):bI (tT X d) X:=jR (λf h e=>e) h
theorem jn{x:aa}:bI (qb x) (dY x):=I2 sH OM
theorem C5{o:AG}{x y:aa}:bI (RO o x y) (lO λh=>ck h o x y):=I2 sH OK
theorem C1{x:aa}{k:Option ak->TM α}{g:Option ak->HM α}(h:∀o,bI (k o) (g o)):bI (RI x k) (rQ x g):=λs=>h (s.h.get x) s
theorem zA{f:Hp->Hp}:bI (O6 f) (vo f):=λs b s' h E=>by cases h;exact ⟨E,rfl⟩
theorem I7{x:aa}{f:Int->TM α}{g:Int->HM α}{d:TM α}{e:HM α}(h:∀i,bI (f i) (g i))(k:bI d e):bI (x.gu f d) (x.gu g e):=by cases x <;> first | exact h _ | exact k
theorem I6{x:aa}{f:Sx->TM α}{g:Sx->HM α}{d:TM α}{e:HM α}(h:∀i,bI (f i) (g i))(k:bI d e):bI (x.iH f d) (x.iH g e):=by cases x <;> first | exact h _ | exact k
theorem I5{x:aa}{f:List aa->TM α}{g:List aa->HM α}{d:TM α}{e:HM α}(h:∀i,bI (f i) (g i))(k:bI d e):bI (x.vS f d) (x.vS g e):=by cases x <;> first | exact h _ | exact k
theorem vH{x:aa}{f:Int->TM α}{g:Int->HM α}(h:∀i,bI (f i) (g i)):bI (x.gu f jv) (x.gu g no):=I7 h eH
theorem vG{x:aa}{f:Sx->TM α}{g:Sx->HM α}(h:∀i,bI (f i) (g i)):bI (x.iH f jv) (x.iH g no):=I6 h eH
theorem ON{x:aa}{f:Nat->TM α}{g:Nat->HM α}{d:TM α}{e:HM α}(h:∀i,bI (f i) (g i))(k:bI d e):bI (x.FY f d) (x.FY g e):=by cases x <;> first | exact h _ | exact k
theorem OJ{x:aa}{m:TM α}{e:HM α}(k:bI m e):bI (U0 x m) (te x e):=(show aL (λh=>some ((),h.del x)) (λ_=>e)=te x e from rfl)▸ah (jR (λf h q=>congrArg (λh=>some ((),h)) q) j6) λ_=>k
theorem KJ{x:aa}{f:List aa->TM α}{g:List aa->HM α}(h:∀i,bI (f i) (g i)):bI (x.pQ f jv) (x.pQ g no):=by cases x <;> first | exact h _ | exact eH
theorem Su{x:aa}{f:TM α}{g:HM α}(h:bI f g):bI (x.vp f jv) (x.vp g no):=by cases x <;> first | exact h | exact eH
theorem zB{o:Option ak}{f:List aa->TM α}{g:List aa->HM α}(h:∀i,bI (f i) (g i)):bI (oL o f jv) (oL o g no):=match o with
 | none=>eH
 | some (.list xs)=>h xs
 | some (.sd _)=>eH
 | some (.eg _)=>eH
 | some (.inst _ _)=>eH
 | some (.ns _)=>eH
theorem Ky{o:Option ak}{f:List (Sx×aa)->TM α}{g:List (Sx×aa)->HM α}{f':List (Int×aa)->TM α}{g':List (Int×aa)->HM α}(h:∀i,bI (f i) (g i))(h':∀i,bI (f' i) (g' i)):bI (ie o f (oF o f' jv)) (ie o g (oF o g' no)):=match o with
 | none=>eH
 | some (.list _)=>eH
 | some (.sd xs)=>h xs
 | some (.eg xs)=>h' xs
 | some (.inst _ _)=>eH
 | some (.ns _)=>eH
theorem CZ{a i v:aa}:bI (KN a i v) (de a i v):=jQ (C1 λo=>Ky (λkvs=>vG λs=>mW zA) λkvs=>vH λs=>mW zA)
theorem KG{l y:aa}:bI (Q5 l y) (cz l y):=jQ (C1 λo=>zB λxs=>mW zA)
theorem Kz{l:aa}{ys:List aa}:bI (Qx l ys) (lx l ys):=jQ (C1 λo=>zB λxs=>mW zA)
theorem KH{m:Mode}{x y:aa}:bI (Q9 m x y) (Cd m x y):=jR (λf h e=>match f.al,e with
 | true,e=>e h
 | false,e=>e) (I7 (λa=>vH λb=>aK) (I6 (λa=>vG λb=>mW aK) (I5 (λa=>I5 (λb=>mW aK) eH) λs=>zB (λa=>zB λb=>mW j6) s)))
theorem zy{m:TM FE}{e:HM FE}{k:Env->TM FE}{g:Env->HM FE}(h:bI m e)(hk:∀env,bI (k env) (g env)):bI (CB m k) (vw e g):=ah h λp=>match p with
 | (.next,env)=>hk env
 | (.cont,env)=>hk env
 | (.brk,_)=>aK
 | (.ret _,_)=>aK
theorem C3{t:ji}{b:Env->TM FE}{g:Env->HM FE}(k:∀env,bI (b env) (g env))(xs:List aa):∀env,bI (EU t b xs env) (mO t g xs env):=
 List.rec (motive:=λxs=>∀env,bI (EU t b xs env) (mO t g xs env)) (λ_=>aK) (λx xs ih env=>gT λenv=>zy (k env) ih) xs
theorem OF{t:Env->TM Bool}{u:Env->HM Bool}{b:Env->TM FE}{g:Env->HM FE}(ht:∀env,bI (t env) (u env))(k:∀env,bI (b env) (g env))(n:Nat):∀env,bI (Ru t b n env) (Kh u g n env):=
 Nat.rec (motive:=λn=>∀env,bI (Ru t b n env) (Kh u g n env)) (λ_=>eH) (λn ih env=>ah (ht env) λq=>mn (zy (k env) ih) aK) n
theorem KA{f:aa->TM (Option aa)}{g:aa->HM (Option aa)}(k:∀x,bI (f x) (g x))(xs:List aa):bI (IA f xs) (dy g xs):=
 List.rec (motive:=λxs=>bI (IA f xs) (dy g xs)) aK (λx xs ih=>ah (k x) λr=>ah ih λys=>aK) xs
end
section
variable(C:jj)
theorem C6{f:Nat}{xs:List aa}:bI (cT C f xs) (C f xs):=jQ j6
theorem OH{c f:Nat}{xs:List aa}:bI (Ux C c f xs) (SQ C c f xs):=λs=>ah (C6 C) (λr=>Su aK) ⟨Uy c s.h,s.fs,s.o⟩
noncomputable def M1(e:ME):Prop:=∀env,bI (tv C e env) (ev pg C e env)
noncomputable def M2(es:List ME):Prop:=(∀env,bI (Gm C es env) (xu pg C es env))/\∀st env,bI (Ot C st es env) (ch pg C st es env)
noncomputable def M3(o:Option ME):Prop:=(∀env,bI (Si C o env) (Qy pg C o env))/\∀env,bI (Uh C o env) (MB pg C o env)
theorem OL{es:List ME}{e:ME}(ke:M1 C e)(k:M2 C es)(st:Bool)(env:Env):bI (Ot C st (e::es) env) (ch pg C st (e::es) env):=match es,k with
 | [],_=>ke env
 | a::es,k=>ah (ke env) λv=>ah jn λb=>match b,st,k.2 st env with
  | true,true,_=>aK
  | false,false,_=>aK
  | true,false,k=>k
  | false,true,k=>k
theorem fe(e:ME):M1 C e:=
 ME.rec (motive_1:=M1 C) (motive_2:=M2 C) (motive_3:=M3 C)
  (λv env=>aK) (λn v env=>aK) (λi env=>gT λv=>OG)
  (λm a b ka kb env=>ah (ka env) λx=>ah (kb env) λy=>KH)
  (λa b ka kb env=>ah (ka env) λx=>ah (kb env) λy=>qk)
  (λa b ka kb env=>ah (ka env) λx=>ah (kb env) λy=>qk)
  (λa b ka kb env=>ah (ka env) λx=>ah (kb env) λy=>qk)
  (λa b ka kb env=>ah (ka env) λx=>ah (kb env) λy=>qk)
  (λa ka env=>ah (ka env) λx=>vH λi=>aK)
  (λa ka env=>ah (ka env) λx=>ah jn λb=>aK)
  (λes k env=>k.2 false env)
  (λes k env=>k.2 true env)
  (λc a b kc ka kb env=>ah (kc env) λx=>ah jn λq=>mn (ka env) (kb env))
  (λo a b ka kb env=>ah (ka env) λx=>ah (kb env) λy=>ah C5 λb=>aK)
  (λo p a b c ka kb kc env=>ah (ka env) λx=>ah (kb env) λy=>ah C5 λq=>mn (ah (kc env) λz=>ah C5 λb=>aK) aK)
  (λa n ka env=>ah (ka env) λx=>qj)
  (λa b ka kb env=>ah (ka env) λx=>ah (kb env) λy=>qj)
  (λa l r ka kl kr env=>ah (ka env) λx=>ah (kl.1 env) λy=>ah (kr.1 env) λz=>qj)
  (λes k env=>ah (k.1 env) λxs=>aK)
  (λm es k env=>ah (k.1 env) λxs=>j6)
  (λm ks es k env=>ah (k.1 env) λxs=>j7 j6)
  (λm ks es k env=>ah (k.1 env) λxs=>j7 j6)
  (λm t a c b ka kc kb env=>ah (ka env) λv=>gT λxs=>mW (ah (OI (KA (λx=>gT λenv'=>ah (kc.2 env') λq=>mn (ah (kb env') λy=>aK) aK) xs)) λys=>j6))
  (λf es k env=>ah (k.1 env) λxs=>C6 C)
  (λc es k env=>ah (k.1 env) λxs=>gT λf=>OH C)
  (λo n es ko k env=>ah (ko env) λx=>gT λf=>ah (k.1 env) λxs=>C6 C)
  (λa ka env=>ah (ka env) λx=>vH λi=>j7 aK)
  (λa b ka kb env=>ah (ka env) λx=>vH λi=>ah (kb env) λy=>vH λj=>j7 aK)
  (λa b ka kb env=>ah (ka env) λx=>ah (kb env) λy=>qk)
  (λo a ka env=>ah (ka env) λx=>qj)
  (λa b ka kb env=>ah (ka env) λx=>ah sH λq=>j7 (ah (kb env) λy=>KG))
  (λa ka env=>ah (ka env) λx=>vF)
  (λa b c ka kb kc env=>ah (ka env) λx=>ah sH λq=>j7 (ah (kb env) λz=>vG λs=>ah (kc env) λy=>vF))
  (λa b ka kb env=>ah (ka env) λx=>ah sH λq=>j7 (ah (kb env) λy=>KJ λys=>Kz))
  (λa b c ka kb kc env=>ah (ka env) λx=>ah sH λq=>j7 (ah (kb env) λy=>ah (kc env) λz=>qj))
  (λa b ka kb env=>ah (ka env) λx=>vG λs=>ah (kb env) λy=>vG λt=>gT λc=>mW aK)
  (λa b ka kb env=>ah (ka env) λx=>vG λs=>ah (kb env) λy=>vG λt=>aK)
  (λa b ka kb env=>ah (ka env) λx=>vG λs=>ah (kb env) λy=>qj)
  ⟨λenv=>aK,λst env=>eH⟩
  (λe es ke k=>⟨λenv=>ah (ke env) λx=>ah (k.1 env) λxs=>aK,λst env=>OL C ke k st env⟩)
  ⟨λenv=>aK,λenv=>aK⟩
  (λe k=>⟨k,λenv=>ah (k env) λx=>jn⟩) e
noncomputable def N1(s:MS):Prop:=∀env,bI (tx C s env) (exec pg C s env)
noncomputable def N2(s:List MS):Prop:=∀env,bI (AM C s env) (execs pg C s env)
theorem KD{t:Vd}{e:ME}:N1 C (.asg t e):=λenv=>ah (jQ (fe C e env)) λx=>match t with
 | .v i=>aK
 | .tup is=>gT λenv=>aK
 | .item a k=>ah (fe C a env) λo=>ah (fe C k env) λi=>ah CZ λ_=>aK
 | .attr a n=>ah (fe C a env) λo=>ah vF λ_=>aK
theorem zC{s:MS}{r:List MS}(ks:N1 C s)(kr:N2 C r):N2 C (s::r):=λenv=>ah (ks env) λp=>match p with
 | (.next,env)=>kr env
 | (.cont,_)=>aK
 | (.brk,_)=>aK
 | (.ret _,_)=>aK
theorem jO(s:MS):N1 C s:=
 MS.rec (motive_1:=N1 C) (motive_2:=N2 C)
  (λt e=>KD C)
  (λa k e env=>ah (fe C a env) λo=>ah (fe C k env) λi=>ah qj λz=>vH λold=>ah (fe C e env) λx=>vH λx=>ah CZ λ_=>aK)
  (λe env=>ah (fe C e env) λ_=>aK)
  (λe env=>ah (fe C e env) λ_=>aK)
  (λe ks env=>ah (fe C e env) λx=>ah vF λy=>aK)
  (λenv=>aK)
  (λc t u kt ku env=>ah (jQ (fe C c env)) λx=>ah jn λq=>mn (kt env) (ku env))
  (λc b k env=>zz (OF (λenv=>ah (fe C c env) λx=>jn) k LF env))
  (λt e b k env=>ah (fe C e env) λv=>gT λxs=>zz (C3 k xs env))
  (λt e b k env=>ah (fe C e env) λv=>KJ λxs=>zz (C3 k xs.reverse env))
  (λenv=>aK) (λenv=>aK)
  (λi ks env=>gT λv=>ah vF λx=>aK)
  (λi k env=>zz j6) (λi env=>gT λv=>ON (λ_=>OJ aK) aK)
  (λenv=>aK)
  (λs r ks kr=>zC C ks kr) s
theorem ox(b:List MS):N2 C b:=List.rec (motive:=N2 C) (λenv=>aK) (λs r k=>zC C (jO C s) k) b
end
noncomputable abbrev Out(α:Type):=Option (α×List Prop×List Prop)
noncomputable def out(x:Option (α×Ts)):Out (α×Hp):=match x with
 | some (a,s)=>some ((a,s.h),s.o.map (·.1),s.o.map (·.2))
 | none=>none
noncomputable def Out.k:Out α->List Prop
 | some (_,_,k)=>k
 | none=>[]
theorem Lg{m:TM α}{e:HM α}{h:Hp}{r:α×Hp}{fs:List cM}{k:List Prop}(S:bI m e)(q:out (m ⟨h,fs,[]⟩)=some (r,k,k)):e h=some r:=by
 cases x:m ⟨h,fs,[]⟩with
 | none=>rw [x]at q;cases q
 | some p=>
  rw [x]at q
  have q:=ay q
  have q1:=congrArg Prod.fst q
  have q2:=congrArg (·.2.1) q
  have q3:=congrArg (·.2.2) q
  exact (S _ p.1 p.2 x (q2.trans q3.symm)).2.trans (congrArg some q1)
theorem bF{α β γ:Type}{m:HM α}{k:α->HM β}{g:β->HM γ}:aL (aL m k) g=aL m λa=>aL (k a) g:=funext λh=>by
 unfold aL;cases m h <;> rfl
theorem gp{α β:Type}{m:HM α}{k g:α->HM β}(h:∀a,k a=g a):aL m k=aL m g:=congrArg _ (funext h)
theorem CH{α:Type}{o:Option α}{m:α->HM FE}{k:Env->HM aa}:fq (hY o m) k=hY o λa=>fq (m a) k:=by cases o <;> rfl
theorem zq{q:Bool}{m n:HM FE}{k:Env->HM aa}:fq (gJ q m n) k=gJ q (fq m k) (fq n k):=by cases q <;> rfl
theorem vy{m:HM FE}{l:Env->HM FE}{k:Env->HM aa}:fq (vw m l) k=aL m (wL k λenv=>fq (l env) k):=bF.trans (gp λp=>match p with
 | (.next,_)=>rfl
 | (.cont,_)=>rfl
 | (.brk,_)=>rfl
 | (.ret _,_)=>rfl)
theorem Ko{t:Env->HM Bool}{b:Env->HM FE}{k:Env->HM aa}(n:Nat):(λenv=>fq (Kh t b n env) k)=Jr t b k n:=
 Nat.rec (motive:=λn=>(λenv=>fq (Kh t b n env) k)=Jr t b k n) rfl (λn ih=>funext λenv=>bF.trans (gp λq=>zq.trans (congrArg (gJ q · _) (vy.trans (congrArg (λl=>aL (b env) (wL k l)) ih))))) n
theorem Gp{t:ji}{b:Env->HM FE}{k:Env->HM aa}(xs:List aa):(λenv=>fq (mO t b xs env) k)=JT t b k xs:=
 List.rec (motive:=λxs=>(λenv=>fq (mO t b xs env) k)=JT t b k xs) rfl (λx xs ih=>funext λenv=>CH.trans (congrArg (hY _) (funext λenv=>vy.trans (congrArg (λl=>aL (b env) (wL k l)) ih)))) xs
theorem qd{C:jj}{s:MS}{r:List MS}{env:Env}{k:Env->HM aa}:fq (execs pg C (s::r) env) k=fq (exec pg C s env) λenv=>fq (execs pg C r env) k:=bF.trans (gp λp=>match p with
 | (.next,_)=>rfl
 | (.cont,_)=>rfl
 | (.brk,_)=>rfl
 | (.ret _,_)=>rfl)
theorem gS{m:TM FE}{e:HM FE}{k:Env->TM aa}{g:Env->HM aa}(h:bI m e)(hk:∀env,bI (k env) (g env)):bI (Om m k) (fq e g):=ah h λp=>match p with
 | (.next,env)=>hk env
 | (.cont,_)=>eH
 | (.brk,_)=>eH
 | (.ret _,_)=>aK
theorem C4{k l:Env->TM aa}{g f:Env->HM aa}(hk:∀env,bI (k env) (g env))(hl:∀env,bI (l env) (f env))(p:FE):bI (MG k l p) (wL g f p):=match p with
 | (.next,env)=>hl env
 | (.cont,env)=>hl env
 | (.brk,env)=>hk env
 | (.ret _,_)=>aK
section
variable{t:Env->TM Bool}{u:Env->HM Bool}{b:Env->TM FE}{c:Env->HM FE}{k:Env->TM aa}{g:Env->HM aa}(ht:∀env,bI (t env) (u env))(hb:∀env,bI (b env) (c env))(hk:∀env,bI (k env) (g env))
include ht hb hk in
theorem C0{l:Env->TM aa}{f:Env->HM aa}(hl:∀env,bI (l env) (f env))(env:Env):bI (PC t b k l env) (aL (u env) λq=>gJ q (aL (c env) (wL g f)) (g env)):=ah (ht env) λq=>mn (ah (hb env) (C4 hk hl)) (hk env)
include ht hb hk in
theorem I3(n:Nat):∀env,bI (Tb (Jr u c g) t b k n env) (Jr u c g n env):=
 Nat.rec (motive:=λn=>∀env,bI (Tb (Jr u c g) t b k n env) (Jr u c g n env)) (λ_=>jQ eH) (λn ih env=>jQ (C0 ht hb hk ih env)) n
include hb hk in
theorem C2{i:ji}{l:Env->TM aa}{f:Env->HM aa}(hl:∀env,bI (l env) (f env))(x:aa)(env:Env):bI (Qs i b k l x env) (hY (gq env i x) λenv=>aL (c env) (wL g f)):=gT λenv=>ah (hb env) (C4 hk hl)
include hb hk in
theorem I4{i:ji}(xs:List aa):∀env,bI (Qu (JT i c g) i b k xs env) (JT i c g xs env):=
 List.rec (motive:=λxs=>∀env,bI (Qu (JT i c g) i b k xs env) (JT i c g xs env)) (λenv=>jQ (hk env)) (λx xs ih env=>jQ (C2 hb hk ih x env)) xs
end
section
variable(C:jj)
noncomputable def K1(s:MS):Prop:=∀(e:Env->HM aa) (k:Env->TM aa),(∀env,bI (k env) (e env))->∀env,bI (kx C s e k env) (fq (exec pg C s env) e)
noncomputable def K2(b:List MS):Prop:=∀(e:Env->HM aa) (k:Env->TM aa),(∀env,bI (k env) (e env))->∀env,bI (PJ C b e k env) (fq (execs pg C b env) e)
theorem Ea{t:ji}{xs:List aa}{b:List MS}{e:Env->HM aa}{k:Env->TM aa}(hk:∀env,bI (k env) (e env))(env:Env):bI (Qu (RJ C t b e) t (AM C b) k xs env) (fq (mO t (λenv=>execs pg C b env) xs env) e):=
 (congrFun (Gp (t:=t) (b:=λenv=>execs pg C b env) (k:=e) xs) env).symm▸I4 (ox C b) hk xs env
theorem Ol{v:aa}{m:List aa->HM FE}{k:Env->HM aa}:fq (v.pQ m no) k=v.pQ (λa=>fq (m a) k) no:=by cases v <;> rfl
theorem PK(s:MS):K1 C s:=
 MS.rec (motive_1:=K1 C) (motive_2:=K2 C)
  (λt e' e k hk env=>gS (jO C _ env) hk) (λa i x e k hk env=>gS (jO C _ env) hk) (λx e k hk env=>gS (jO C _ env) hk) (λx e k hk env=>gS (jO C _ env) hk) (λx ks e k hk env=>gS (jO C _ env) hk) (λe k hk env=>gS (jO C _ env) hk)
  (λc t u kt ku e k hk env=>(show fq (exec pg C (.bx c t u) env) e=aL (ev pg C c env) λx=>aL (dY x) λq=>gJ q (fq (execs pg C t env) e) (fq (execs pg C u env) e)from bF.trans (gp λx=>bF.trans (gp λq=>zq)))▸ah (jQ (fe C c env)) λx=>ah jn λq=>mn (kt e k hk env) (ku e k hk env))
  (λc b kb e k hk env=>(congrFun (Ko (t:=λenv=>aL (ev pg C c env) dY) (b:=λenv=>execs pg C b env) (k:=e) LF) env).symm▸I3 (λenv=>ah (fe C c env) λx=>jn) (ox C b) hk LF env)
  (λt it b kb e k hk env=>(show fq (exec pg C (.fr t it b) env) e=aL (ev pg C it env) λv=>hY (itemsOf v) λxs=>fq (mO t (λenv=>execs pg C b env) xs env) e from bF.trans (gp λx=>CH))▸ah (fe C it env) λv=>gT λxs=>Ea C hk env)
  (λt it b kb e k hk env=>(show fq (exec pg C (.Im t it b) env) e=aL (ev pg C it env) λv=>v.pQ (λxs=>fq (mO t (λenv=>execs pg C b env) xs.reverse env) e) no from bF.trans (gp λx=>Ol))▸ah (fe C it env) λv=>KJ λxs=>Ea C hk env)
  (λe k hk env=>gS (jO C _ env) hk) (λe k hk env=>gS (jO C _ env) hk) (λa i e k hk env=>gS (jO C _ env) hk) (λa i e k hk env=>gS (jO C _ env) hk) (λa e k hk env=>gS (jO C _ env) hk)
  (λe k hk env=>hk env)
  (λs r ks kr e k hk env=>qd▸ks _ _ (λenv=>kr e k hk env) env) s
theorem LO(b:List MS):K2 C b:=List.rec (motive:=K2 C) (λe k hk env=>hk env) (λs r kr e k hk env=>qd▸PK C s _ _ (λenv=>kr e k hk env) env) b
end
noncomputable def kE:Env->HM aa:=λ_=>aj .none
noncomputable def kT:Env->TM aa:=λ_=>ret .none
theorem Sr(env:Env):bI (kT env) (kE env):=aK
noncomputable def wX(C:jj)(b:List MS)(env:Env):HM aa:=fq (execs pg C b env) kE
noncomputable def wW(C:jj)(b:List MS):Env->TM aa:=PJ C b kE kT
theorem hV{C:jj}(b:List MS)(env:Env):bI (wW C b env) (wX C b env):=LO C b kE kT Sr env
noncomputable def J2(C:jj)(f:Nat)(args:List aa):TM aa:=xr (pg.fns f) λfn=>Cp (Nat.beq args.length fn.np) (wW C fn.body (args++List.replicate (fn.nv - fn.np) .undef))
theorem Fj{d f:Nat}{args:List aa}:aM pg (d + 1) f args=hY (pg.fns f) λfn=>gd (Nat.beq args.length fn.np) (wX (aM pg d) fn.body (args++List.replicate (fn.nv - fn.np) .undef)):=
 congrArg (hY (pg.fns f)) (funext λfn=>congrArg (gd _) (gp λp=>match p with
 | (.next,_)=>rfl
 | (.cont,_)=>rfl
 | (.brk,_)=>rfl
 | (.ret _,_)=>rfl))
theorem Fi{d f:Nat}{args:List aa}:bI (J2 (aM pg d) f args) (aM pg (d + 1) f args):=Fj▸gT λfn=>j7 (hV _ _)
noncomputable def atC(b:List MS)(i:Nat):ME:=match b[i]? with | some (.wh c _)=>c | _=>.c .none
noncomputable def RW(b:List MS)(i:Nat):List MS:=match b[i]? with | some (.wh _ b)=>b | some (.fr _ _ b)=>b | some (.Im _ _ b)=>b | _=>[]
noncomputable def atT(b:List MS)(i:Nat):ji:=match b[i]? with | some (.fr t _ _)=>t | some (.Im t _ _)=>t | _=>.v 0
noncomputable def lp(d:Nat)(b:List MS)(i:Nat):Nat->Env->HM aa:=UH (aM pg d) (atC b i) (RW b i) (wX (aM pg d) (b.drop (i + 1)))
noncomputable def fr(d:Nat)(b:List MS)(i:Nat):List aa->Env->HM aa:=RJ (aM pg d) (atT b i) (RW b i) (wX (aM pg d) (b.drop (i + 1)))
noncomputable def UG(d:Nat)(b:List MS)(i:Nat):Nat->Env->TM aa:=Tc (lp d b i) (λenv=>bE (tv (aM pg d) (atC b i) env) qb) (AM (aM pg d) (RW b i)) (wW (aM pg d) (b.drop (i + 1)))
noncomputable def UX(d:Nat)(b:List MS)(i:Nat):List aa->Env->TM aa:=Tw (fr d b i) (atT b i) (AM (aM pg d) (RW b i)) (wW (aM pg d) (b.drop (i + 1)))
theorem LK{d i:Nat}{b:List MS}{env:Env}(n:Nat):bI (UG d b i n env) (lp d b i n env):=
 have ht:∀env,bI (bE (tv (aM pg d) (atC b i) env) qb) (aL (ev pg (aM pg d) (atC b i) env) dY):=λenv=>ah (fe (aM pg d) (atC b i) env) λx=>jn
 match n with
 | 0=>eH
 | n + 1=>C0 ht (ox _ _) (hV _) (I3 ht (ox _ _) (hV _) n) env
theorem Mt{d i:Nat}{b:List MS}{xs:List aa}{env:Env}:bI (UX d b i xs env) (fr d b i xs env):=match xs with
 | []=>hV _ env
 | x::xs=>C2 (ox _ _) (hV _) (I4 (ox _ _) (hV _) xs) x env
structure Gl where
 g:Nat
 m:Nat->HM aa
 t:Nat->TM aa
 s:∀d,bI (t d) (m d)
 h:Hp
 r:aa×Hp
noncomputable def cl(f:Nat)(xs:List aa)(h:Hp)(r:aa×Hp):Gl:=⟨104,λd=>aM pg (d + 1) f xs,λd=>J2 (aM pg d) f xs,λd=>Fi,h,r⟩
noncomputable def lw(i:Nat)(b:List MS)(n:Nat)(env:Env)(h:Hp)(r:aa×Hp):Gl:=⟨106,λd=>lp d b i n env,λd=>UG d b i n env,λd=>LK n,h,r⟩
noncomputable abbrev lo(i:Nat)(b:List MS)(n:Nat)(env:Env)(h:Hp)(r:aa×Hp):Gl:=lw i b (n + 1) env h r
noncomputable def fo(i:Nat)(b:List MS)(xs:List aa)(env:Env)(h:Hp)(r:aa×Hp):Gl:=⟨107,λd=>fr d b i xs env,λd=>UX d b i xs env,λd=>Mt,h,r⟩
noncomputable def bo(b:List MS)(env:Env)(h:Hp)(r:aa×Hp):Gl:=⟨0,λd=>wX (aM pg d) b env,λd=>wW (aM pg d) b env,λd=>hV b env,h,r⟩
noncomputable def ex(g:Nat)(a:ME)(env:Env)(h:Hp)(r:aa×Hp):Gl:=⟨g,λd=>ev pg (aM pg d) a env,λd=>tv (aM pg d) a env,λd=>fe _ a env,h,r⟩
noncomputable abbrev Gl.val(G:Gl)(d:Nat):Option (aa×Hp):=G.m d G.h
noncomputable abbrev Gl.ok(G:Gl)(d:Nat):Prop:=G.val d=some G.r
noncomputable def Gl.T(G:Gl)(d:Nat)(fs:List cM):Out (aa×Hp):=out (G.t d ⟨G.h,fs,[]⟩)
noncomputable abbrev Gl.R(G:Gl)(d:Nat)(fs:List cM):Prop:=G.T d fs=some (G.r,(G.T d fs).k,(G.T d fs).k)
theorem run{G:Gl}{d:Nat}(fs:List (Fact d))(e:G.R d fs:=by kernel_rfl):G.ok d:=Lg (G.s d) e
noncomputable def Fact.g{d:Nat}{G:Gl}(e:G.ok d):Fact (d + 1):=(⟨104,G.r.1,true,[],(.next,[]),G.r.2,false,_,e⟩:cM)
noncomputable def Fact.l{d:Nat}{G:Gl}(e:G.ok d):Fact d:=(⟨G.g,G.r.1,true,[],(.next,[]),G.r.2,false,_,e⟩:cM)
end Mn.Q
end
section
set_option genInjectivity false
set_option genSizeOf false
namespace Mn.Q
set_option genCtorIdx true in
inductive Nm where | a | b
 deriving DecidableEq
set_option genCtorIdx true in
inductive Nt where | x | y | f | g
set_option genCtorIdx true in
inductive Wk where | paren | eh | chain
set_option genCtorIdx true in
inductive Op where | set | add | and | or | nul
set_option genCtorIdx true in
inductive Us where | del | not | typ | neg
set_option genCtorIdx true in
inductive Bs where | eq | plus | and | or | nul
inductive Ix where | str (c:Nm) (m:Nat) | rO (c:Nm) (m:Nat) | y (m:Nat)
inductive Ak where | zero | one (s:Option Nat) | two (s t:Option Nat)
inductive Pk where | op (o:Op) | p4 (b p:Nat) | p5 (b x c p:Nat) | p6 (b p:Nat)
inductive E where
 | nm (s:Nt) (n:Nat) | this (n:Nat) | num (b:Bool) (n:Nat)
 | wr (k:Wk) (e:E) (n:Nat)
 | mem (o:Bool) (c:Nm) (e:E) (n:Nat) | idx (o:Bool) (t:Ix) (e:E) (n:Nat)
 | call (w o:Bool) (k:Ak) (f p q:E) (m n:Nat)
 | asg (k:Pk) (t v:E) (n:Nat)
 | un (s:Us) (e:E) (n:Nat) | upd (b:Bool) (t:E) (n:Nat)
 | fn (e:E) (m n:Nat) | cls (e:E) (m f r n:Nat)
 | bin (s:Bs) (p q:E) (n:Nat) | pick (p q r:E) (n:Nat)
noncomputable def Nm.s:Nm->Sx | .a=>fE | .b=>ou
noncomputable def Nt.s:Nt->Sx | .x=>Hv | .y=>NU | .f=>Tj | .g=>UP
noncomputable def Nt.Ci:Nt->Option aa | .x=>some (.int 1) | .y=>some (.int 2) | .f=>some (.int 3) | .g=>none
noncomputable def Nt.key:Nt->Option Sx | .x=>some jy | .y=>some mG | .f=>some ym | .g=>none
noncomputable def Wk.k:Wk->Int | .paren=>33 | .eh=>32 | .chain=>20
noncomputable def Op.s:Op->Sx | .set=>du | .add=>cI | .and=>dw | .or=>dq | .nul=>dr
noncomputable def Us.s:Us->Sx | .del=>gb | .not=>yu | .typ=>qM | .neg=>Em
noncomputable def Bs.k:Bs->Int | .eq=>23 | .plus=>23 | _=>24
noncomputable def Bs.s:Bs->Sx | .eq=>g5 | .plus=>yt | .and=>jB | .or=>fb | .nul=>gZ
noncomputable def nd(k:Int)(a:aa)(kids:List aa)(fl:Int)(n:Nat):aa:=
 .inst 0 [(az,.int k),(fE,a),(aB,.list kids),(fW,.int fl),(Bq,.int 0),(bj,.int n)]
noncomputable def aQ:aa:=.str []
noncomputable def Ix.K:Ix->Int | .str _ _=>2 | .rO _ _=>3 | .y _=>8
noncomputable def Ix.A:Ix->aa | .str c _=>.str c.s | .rO c _=>.tup [.str c.s] | .y _=>.str NU
noncomputable def Ix.m:Ix->Nat | .str _ m=>m | .rO _ m=>m | .y m=>m
noncomputable def Ix.enc(t:Ix):aa:=nd t.K t.A [] 0 t.m
noncomputable def oi:Bool->Int | true=>1 | false=>0
noncomputable def bi:Bool->Int | true=>1 | false=>0
noncomputable def Pk.a:Pk->Sx | .op o=>o.s | _=>du
noncomputable def bind(s:Sx)(x:aa)(fl:Int)(n:Nat):aa:=nd 36 (.str s) [x,.none] fl n
noncomputable def bW:E->Nat
 | .nm _ n=>n | .this n=>n | .num _ n=>n | .wr _ _ n=>n | .mem _ _ _ n=>n | .idx _ _ _ n=>n
 | .call _ _ _ _ _ _ _ n=>n | .asg _ _ _ n=>n | .un _ _ n=>n | .upd _ _ n=>n | .fn _ _ n=>n | .cls _ _ _ _ n=>n
 | .bin _ _ _ n=>n | .pick _ _ _ n=>n
noncomputable def bV:E->Int
 | .nm _ _=>8 | .this _=>9 | .num _ _=>1 | .wr k _ _=>k.k | .mem _ _ _ _=>16 | .idx _ _ _ _=>17
 | .call w _ _ _ _ _ _ _=>bif w then 19 else 18
 | .asg _ _ _ _=>25 | .un _ _ _=>21 | .upd _ _ _=>22 | .fn _ _ _=>27 | .cls _ _ _ _ _=>61 | .bin s _ _ _=>s.k | .pick _ _ _ _=>26
noncomputable def aV:E->aa
 | .nm s _=>.str s.s | .num b _=>.int (bi b) | .mem _ c _ _=>.str c.s | .asg k _ _ _=>.str k.a | .un s _ _=>.str s.s
 | .upd b _ _=>.str (bif b then g6 else g7)
 | .bin s _ _ _=>.str s.s
 | _=>aQ
noncomputable def Mw:E->Int
 | .mem o _ _ _=>oi o | .idx o _ _ _=>oi o | .call _ o _ _ _ _ _ _=>oi o | .fn _ _ _=>12
 | _=>0
noncomputable def VT(e:E)(kids:List aa):aa:=nd (bV e) (aV e) kids (Mw e) (bW e)
inductive Fo where | nil | no (r:Fo) | nd (K:Int) (a:aa) (fl:Int) (n:Nat) (t:E) (ks r:Fo)
noncomputable def Fo.enc:Fo->List aa
 | .nil=>[]
 | .no r=>.none::r.enc
 | .nd K a fl n _ ks r=>Mn.Q.nd K a ks.enc fl n::r.enc
noncomputable abbrev rj:E:=.num false 0
noncomputable def tn(t:E)(ks r:Fo):Fo:=.nd (bV t) (aV t) (Mw t) (bW t) t ks r
noncomputable def wZ(s:Sx)(t:E)(kt:Fo)(fl:Int)(n:Nat)(r:Fo):Fo:=.nd 36 (.str s) fl n rj (tn t kt (.no .nil)) r
noncomputable def xP(s:Option Nat)(p:E)(kp r:Fo):Fo:=match s with
 | none=>tn p kp r
 | some m=>.nd 15 aQ 0 m rj (tn p kp .nil) r
noncomputable def Ak.fo(k:Ak)(p:E)(kp:Fo)(q:E)(kq:Fo):Fo:=match k with
 | .zero=>.nil
 | .one s=>xP s p kp .nil
 | .two s t=>xP s p kp (xP t q kq .nil)
noncomputable def Pk.K(t:E):Pk->Int | .op _=>bV t | .p6 _ _=>35 | _=>34
noncomputable def Pk.A(t:E):Pk->aa | .op _=>aV t | _=>aQ
noncomputable def Pk.Fl(t:E):Pk->Int | .op _=>Mw t | _=>0
noncomputable def Pk.N(t:E):Pk->Nat | .op _=>bW t | .p4 _ p=>p | .p5 _ _ _ p=>p | .p6 _ p=>p
noncomputable def Pk.tg(t:E):Pk->E | .op _=>t | _=>rj
noncomputable def Pk.ks(t:E)(kt:Fo):Pk->Fo
 | .op _=>kt
 | .p4 b _=>wZ fE t kt 0 b .nil
 | .p5 b x c _=>wZ ou t kt 0 b (wZ [] (.nm .x x) .nil 8192 c .nil)
 | .p6 b _=>.no (wZ [] t kt 0 b .nil)
noncomputable def kf:E->Fo
 | .nm _ _=>.nil | .this _=>.nil | .num _ _=>.nil
 | .wr _ e _=>tn e (kf e) .nil
 | .mem _ _ e _=>tn e (kf e) .nil
 | .idx _ t e _=>tn e (kf e) (.nd t.K t.A 0 t.m rj .nil .nil)
 | .call _ _ k f p q m _=>tn f (kf f) (.nd 71 aQ 0 m rj (k.fo p (kf p) q (kf q)) (.no .nil))
 | .asg k t v _=>.nd (k.K t) (k.A t) (k.Fl t) (k.N t) (k.tg t) (k.ks t (kf t)) (tn v (kf v) .nil)
 | .un _ e _=>tn e (kf e) .nil
 | .upd _ t _=>tn t (kf t) .nil
 | .fn e m _=>.no (.nd 71 aQ 0 m rj .nil (.no (tn e (kf e) .nil)))
 | .cls e m f r _=>.no (.no (.no (.nd 71 aQ 0 m rj .nil (.nd 71 aQ 0 r rj (.nd 62 (.str jW) 0 f rj (.no (tn e (kf e) .nil)) .nil) .nil))))
 | .bin _ p q _=>tn p (kf p) (tn q (kf q) .nil)
 | .pick p q r _=>tn p (kf p) (tn q (kf q) (tn r (kf r) .nil))
noncomputable def enc(e:E):aa:=VT e (kf e).enc
noncomputable def Pk.pat(t:E)(k:Pk):aa:=nd (k.K t) (k.A t) (k.ks t (kf t)).enc (k.Fl t) (k.N t)
noncomputable def Cg(s:Option Nat)(x:aa):aa:=match s with
 | none=>x
 | some m=>nd 15 aQ [x] 0 m
noncomputable def Ak.args(k:Ak)(p q:E):List aa:=(k.fo p (kf p) q (kf q)).enc
set_option genCtorIdx true in
inductive Rt where | s1 | s2 | s3 | this
 deriving DecidableEq
noncomputable abbrev Path:=Rt×List Nm
noncomputable def Rt.s:Rt->Sx | .s1=>jy | .s2=>mG | .s3=>ym | .this=>gY
noncomputable def fH:List Nm->Sx
 | []=>[]
 | c::r=>46::(c.s++fH r)
noncomputable def dot(p:Path):Sx:=p.1.s++fH p.2
noncomputable def rs(r:Option Path)(t:Sx):Sx:=match r with
 | none=>[]
 | some p=>dot p++t
noncomputable def bk:Option Path->aa
 | none=>.none
 | some p=>.tup (.str p.1.s::p.2.map λc=>.str c.s)
noncomputable def Nt.rt:Nt->Option Rt | .x=>some .s1 | .y=>some .s2 | .f=>some .s3 | .g=>none
noncomputable def Ix.nm:Ix->Option Nm | .str c _=>some c | .rO c _=>some c | .y _=>none
noncomputable def rU(p:Option Path)(c:Nm):Option Path:=p.map λq=>(q.1,q.2++[c])
noncomputable def ref:E->Option Path
 | .nm s _=>s.rt.map (·,[])
 | .this _=>some (.this,[])
 | .wr _ e _=>ref e
 | .mem _ c e _=>rU (ref e) c
 | .idx _ t e _=>t.nm.elim none (rU (ref e))
 | _=>none
noncomputable def Op.tests:Op->Bool | .add=>false | _=>true
noncomputable def aS:E->Option Path
 | .wr _ e _=>aS e
 | .asg (.op o) t _ _=>bif o.tests then aS t else none
 | e=>ref e
noncomputable def ny:E->List (Nat×Option aa)
 | .this _=>[] | .num _ _=>[]
 | .nm s n=>[(n,s.Ci)]
 | .wr _ e _=>ny e
 | .mem _ _ e _=>ny e
 | .idx _ t e _=>ny e++(match t with
  | .y m=>[(m,some (.int 2))]
  | _=>[])
 | .call _ _ _ f p q _ _=>ny f++ny p++ny q
 | .asg k t v _=>ny t++ny v++(match k with
  | .p5 _ x _ _=>[(x,some (.int 1))]
  | _=>[])
 | .un _ e _=>ny e
 | .upd _ t _=>ny t
 | .fn e _ _=>ny e
 | .cls e _ _ _ _=>ny e
 | .bin _ p q _=>ny p++ny q
 | .pick p q r _=>ny p++ny q++ny r
noncomputable def UO(u:List (Int×aa))(e:E):Prop:=∀p∈ny e,cU u (p.1:Int)=p.2
noncomputable def sz:E->Nat
 | .nm _ _=>1 | .this _=>1 | .num _ _=>1
 | .wr _ e _=>sz e + 1
 | .mem _ _ e _=>sz e + 1
 | .idx _ _ e _=>sz e + 2
 | .call _ _ _ f p q _ _=>sz f + sz p + sz q + 5
 | .asg _ t v _=>sz t + sz v + 7
 | .un _ e _=>sz e + 1
 | .upd _ t _=>sz t + 1
 | .fn e _ _=>sz e + 4
 | .cls e _ _ _ _=>sz e + 8
 | .bin _ p q _=>sz p + sz q + 1
 | .pick p q r _=>sz p + sz q + sz r + 1
noncomputable def jc:E->E
 | .wr _ e _=>jc e
 | e=>e
noncomputable def Bs.low:Bs->Bool | .eq=>true | .plus=>true | _=>false
noncomputable def h9:E->Option E
 | .wr _ e _=>h9 e
 | .mem _ _ e _=>h9 e
 | .un _ e _=>h9 e
 | .bin s p _ _=>bif s.low then h9 p else none
 | .asg k t v n=>some (.asg k t v n)
 | _=>none
noncomputable def jd:E->Option (Option Path×Nm)
 | .wr _ e _=>jd e
 | .mem _ c e _=>some (aS e,c)
 | .idx _ t e _=>t.nm.map λc=>(aS e,c)
 | _=>none
noncomputable def Cm(b:Bool)(x:Option Path×Nat)(l:List (Option Path×Nat)):List (Option Path×Nat):=bif b then x::l else l
noncomputable def holds:E->List (Option Path×Nat)
 | .wr _ e _=>holds e
 | .mem o _ e _=>Cm o (aS e,bW e) (holds e)
 | .idx o _ e _=>Cm o (aS e,bW e) (holds e)
 | .call w o _ f _ _ _ _=>bif w then []else Cm o (aS f,bW f) (holds f)
 | _=>[]
noncomputable def dz(r:Option Path):Sx:=rs r []
noncomputable def wI(k:Path)(l:List (Option Path×Nat)):Bool:=l.any λx=>dz x.1==dot k
noncomputable def BE:Option (Option Path×Nm)->aa
 | none=>.tup [aQ,aQ]
 | some x=>.tup [.str (dz x.1),.str x.2.s]
noncomputable def obj:E->Option E
 | .wr _ e _=>obj e
 | .mem _ _ e _=>some e
 | .idx _ _ e _=>some e
 | _=>none
noncomputable def oV:Option E->aa
 | none=>.none
 | some e=>enc e
noncomputable def gB:E->Bool
 | .wr .chain _ _=>false
 | .wr _ e _=>gB e
 | .mem o _ e _=>o ||gB e
 | .idx o _ e _=>o ||gB e
 | .call w o _ f _ _ _ _=>bif w then false else (o ||gB f)
 | _=>false
noncomputable def ra(e:E):Sx:=match jd e with
 | none=>[]
 | some x=>dz x.1
noncomputable def tells(e:E)(k:Path):Bool:=dz (aS e)==dot k ||(ra e==dot k ||wI k (holds e))
noncomputable def AV:aa:=.inst 1 [(pn,.none),(cc,.bw 1 0),(jA,.sd []),(mF,.int 0),(mI,.int 0)]
noncomputable def fM:E->List E
 | .asg (.p5 _ x _ _) t _ _=>[t,.nm .x x]
 | .asg _ t _ _=>[t]
 | .upd _ t _=>[t]
 | .un .del e _=>[jc e]
 | _=>[]
noncomputable def isSet:E->Bool
 | .asg _ _ _ _=>true
 | .upd _ _ _=>true
 | .un .del _ _=>true
 | _=>false
noncomputable def eN:E->Bool
 | .nm .x _=>true
 | .nm .y _=>true
 | .mem _ _ _ _=>true
 | .idx _ _ _ _=>true
 | _=>false
noncomputable def lR(e:E)(k:Path):Bool:=(fM e).any λt=>dz (ref t)==dot k
noncomputable def pre(s:Sx)(k:Path):Bool:= !(s==[])&&cv (s++[46]) (dot k)
noncomputable def jw(e:E)(k:Path):Bool:=(fM e).any λt=>pre (dz (ref t)) k
noncomputable def nB(k:Path):E->Bool
 | .mem _ c _ _=> !k.2.isEmpty&&k.2.contains c
 | .idx _ t _ _=> !k.2.isEmpty&&t.nm.elim true k.2.contains
 | _=>false
noncomputable def sS(e:E)(k:Path):Bool:=(fM e).any (nB k)
noncomputable def keys:List Path:=[(.s1,[]),(.s1,[.a]),(.s1,[.a,.b]),(.this,[.a]),(.s2,[.b])]
set_option genCtorIdx true in
inductive Hid where | o | a | b | ab
noncomputable def Hid.has:Hid->Nm->Bool
 | .a,.a=>true
 | .b,.b=>true
 | .ab,_=>true
 | _,_=>false
noncomputable def Hid.some:Hid->Bool | .o=>false | _=>true
noncomputable def Hid.enc:Hid->aa
 | .o=>.sd []
 | .a=>.sd [(fE,.int 1)]
 | .b=>.sd [(ou,.int 1)]
 | .ab=>.sd [(fE,.int 1),(ou,.int 1)]
inductive Rr where
 | mem (o:Bool) (c:Nm) (e:E) (n:Nat) | idx (o:Bool) (t:Ix) (e:E) (n:Nat) | Cg (e:E) (m:Nat) | pat (k:Pk) (t:E)
noncomputable def Rr.enc:Rr->aa
 | .mem o c e n=>Mn.Q.enc (.mem o c e n)
 | .idx o t e n=>Mn.Q.enc (.idx o t e n)
 | .Cg e m=>nd 15 aQ [Mn.Q.enc e] 0 m
 | .pat k t=>k.pat t
noncomputable def Rr.ok:Rr->Bool
 | .pat (.op _) _=>false
 | _=>true
noncomputable def Rr.gK(H:Hid):Rr->Bool
 | .mem _ c _ _=>H.has c
 | .idx _ t _ _=>t.nm.elim H.some H.has
 | .Cg _ _=>H.some
 | .pat (.p4 _ _) _=>H.has .a
 | .pat (.p5 _ _ _ _) _=>H.some
 | .pat _ _=>false
noncomputable def n8:E->E
 | .wr .paren e _=>n8 e
 | e=>e
noncomputable def RF:E->Bool
 | .nm .g _=>true
 | _=>false
noncomputable def glob(f:E):Bool:=RF (n8 f)
noncomputable def Ak.lst(k:Ak)(p q:E):List (Option Nat×E):=match k with
 | .zero=>[]
 | .one s=>[(s,p)]
 | .two s t=>[(s,p),(t,q)]
noncomputable def CX(x:Option Nat×E):aa:=Cg x.1 (enc x.2)
noncomputable def gE(l:List (Option Nat×E))(i:Nat):Option E:=bif (l.take (i + 1)).any (·.1.isSome)then none else l[i]?.map (·.2)
noncomputable def lz(l:List (Option Nat×E))(f:E)(k:Path):Bool:=(l.any λx=> !x.1.isSome&&tells x.2 k) ||(obj f).elim false (tells · k)
noncomputable def wt:E->Prop
 | .nm _ _=>True | .this _=>True | .num _ _=>True
 | .wr _ e _=>wt e
 | .mem _ _ e _=>wt e
 | .idx _ _ e _=>wt e
 | .call _ _ _ f p q _ _=>wt f/\wt p/\wt q
 | .asg _ t v _=>eN t=true/\wt t/\wt v
 | .un s e _=>(match s with
  | .del=>eN (jc e)=true/\(obj e).isSome
  | _=>True)/\wt e
 | .upd _ t _=>eN t=true/\wt t
 | .fn e _ _=>wt e
 | .cls e _ _ _ _=>wt e
 | .bin _ p q _=>wt p/\wt q
 | .pick p q r _=>wt p/\wt q/\wt r
noncomputable def Ak.more(k:Ak):List Nat:=match k with
 | .zero=>[]
 | .one s=>s.toList
 | .two s t=>s.toList++t.toList
noncomputable def Pk.marks(k:Pk):List Nat:=match k with
 | .op _=>[]
 | .p4 _ p=>[p]
 | .p5 _ _ _ p=>[p]
 | .p6 _ p=>[p]
noncomputable def Pk.ids(k:Pk):List Nat:=match k with
 | .op _=>[]
 | .p4 _ p=>[p]
 | .p5 _ x _ p=>[x,p]
 | .p6 _ p=>[p]
noncomputable def Ak.al{α:Type}(k:Ak)(x y:List α):List α:=match k with
 | .zero=>[]
 | .one _=>x
 | .two _ _=>x++y
noncomputable def dn:E->List Nat
 | .nm _ _=>[] | .this _=>[] | .num _ _=>[]
 | .wr _ e _=>dn e
 | .mem _ _ e n=>dn e++[n]
 | .idx _ _ e n=>dn e++[n]
 | .call _ _ k f p q _ n=>dn f++(k.al (dn p) (dn q)++(k.more++[n]))
 | .asg k t v n=>dn t++(dn v++(k.marks++[n]))
 | .un _ e n=>dn e++[n]
 | .upd _ t n=>dn t++[n]
 | .fn _ _ _=>[]
 | .cls e _ _ _ _=>dn e
 | .bin _ p q _=>dn p++dn q
 | .pick p q r _=>dn p++(dn q++dn r)
noncomputable def all:E->List Nat
 | .nm _ n=>[n] | .this n=>[n] | .num _ n=>[n]
 | .wr _ e n=>all e++[n]
 | .mem _ _ e n=>all e++[n]
 | .idx _ _ e n=>all e++[n]
 | .call _ _ k f p q _ n=>all f++(k.al (all p) (all q)++(k.more++[n]))
 | .asg k t v n=>all t++(all v++(k.ids++[n]))
 | .un _ e n=>all e++[n]
 | .upd _ t n=>all t++[n]
 | .fn e _ n=>all e++[n]
 | .cls e _ _ _ n=>all e++[n]
 | .bin _ p q n=>all p++(all q++[n])
 | .pick p q r n=>all p++(all q++(all r++[n]))
noncomputable def dep:E->Nat
 | .nm _ _=>1 | .this _=>1 | .num _ _=>1
 | .wr _ e _=>dep e + 1
 | .mem _ _ e _=>dep e + 1
 | .idx _ _ e _=>dep e + 1
 | .call _ _ _ f p q _ _=>max (dep f) (max (dep p) (dep q)) + 1
 | .asg _ t v _=>max (dep t) (dep v) + 1
 | .un _ e _=>dep e + 1
 | .upd _ t _=>dep t + 1
 | .fn e _ _=>dep e + 1
 | .cls e _ _ _ _=>dep e + 1
 | .bin _ p q _=>max (dep p) (dep q) + 1
 | .pick p q r _=>max (dep p) (max (dep q) (dep r)) + 1
noncomputable def Uz:Option Nm->aa | none=>.none | some c=>.str c.s
noncomputable def iU:E->aa
 | .wr _ e _=>iU e
 | .mem _ c _ _=>.str c.s
 | .idx _ t _ _=>Uz t.nm
 | _=>aQ
noncomputable def cb(t:E):aa:=.tup [bk (ref t),iU t]
noncomputable def bq(e:E):aa:=.tup [enc e,.list ((fM e).map cb)]
noncomputable def Rr.names:Rr->List aa
 | .mem _ c _ _=>[.str c.s]
 | .idx _ t _ _=>[Uz t.nm]
 | .Cg _ _=>[.none]
 | .pat (.p4 _ _) _=>[.str fE]
 | .pat (.p5 _ _ _ _) _=>[.str ou]
 | .pat _ _=>[]
noncomputable def Rr.rest:Rr->Bool
 | .pat (.p5 _ _ _ _) _=>true
 | _=>false
noncomputable def Rr.WN:Rr->Bool
 | .idx _ (.y _) _ _=>true
 | .Cg _ _=>true
 | .pat (.p5 _ _ _ _) _=>true
 | _=>false
noncomputable def mq(r:Rr):aa:=.tup [r.enc,.list r.names,.bool r.rest]
noncomputable def Pk.v9(k:Pk)(t:E):List aa:=match k with
 | .op _=>[]
 | k=>[k.pat t]
noncomputable def iP(s:Option Nat)(p:E):List aa:=match s with
 | none=>[]
 | some m=>[nd 15 aQ [enc p] 0 m]
noncomputable def Ak.iP(k:Ak)(p q:E):List aa:=match k with
 | .zero=>[]
 | .one s=>Q.iP s p
 | .two s t=>Q.iP s p++Q.iP t q
noncomputable def aE:E->List aa
 | .nm _ _=>[] | .this _=>[] | .num _ _=>[]
 | .wr _ e _=>aE e
 | .mem o c e n=>aE e++[enc (.mem o c e n)]
 | .idx o t e n=>aE e++[enc (.idx o t e n)]
 | .call w o k f p q m n=>aE f++(k.al (aE p) (aE q)++(k.iP p q++[enc (.call w o k f p q m n)]))
 | .asg k t v n=>aE t++(aE v++(k.v9 t++[enc (.asg k t v n)]))
 | .un s e n=>aE e++[enc (.un s e n)]
 | .upd b t n=>aE t++[enc (.upd b t n)]
 | .fn _ _ _=>[]
 | .cls e _ _ _ _=>aE e
 | .bin _ p q _=>aE p++aE q
 | .pick p q r _=>aE p++(aE q++aE r)
noncomputable def aP:E->List E
 | .nm _ _=>[] | .this _=>[] | .num _ _=>[]
 | .wr _ e _=>aP e
 | .mem _ _ e _=>aP e
 | .idx _ _ e _=>aP e
 | .call _ _ k f p q _ _=>aP f++k.al (aP p) (aP q)
 | .asg k t v n=>aP t++(aP v++[.asg k t v n])
 | .un .del e n=>aP e++[.un .del e n]
 | .un _ e _=>aP e
 | .upd b t n=>aP t++[.upd b t n]
 | .fn _ _ _=>[]
 | .cls _ _ _ _ _=>[]
 | .bin _ p q _=>aP p++aP q
 | .pick p q r _=>aP p++(aP q++aP r)
noncomputable def kO(e:E):aa:=.list ((holds e).map λx=>.tup [bk x.1,.int (x.2:Nat)])
noncomputable def gR(e:E):Nat:=match h9 e with
 | none=>0
 | some F=>bW F
noncomputable def Ba(e:E)(ob:aa):aa:=.sd [(au,enc e),(c5,bk (ref e)),(bg,bk (aS e)),(bK,.int (gR e:Nat)),(cw,kO e),(dm,BE (jd e)),(dh,ob),(cP,iU e),(bS,.bool (gB e)),(eM,.int (dep e:Nat)),(aq,.list (aE e)),(aG,.list ((aP e).map bq))]
noncomputable def yc:E->aa
 | .wr _ e _=>yc e
 | .mem _ _ e _=>Ba e (yc e)
 | .idx _ _ e _=>Ba e (yc e)
 | _=>.none
noncomputable def ax(e:E):aa:=Ba e (yc e)
noncomputable def xi(x:Option Nat×E):aa:=bif x.1.isSome then .none else ax x.2
noncomputable def nY(e:E):aa:=match e with
 | .call w o' k f p q m n=>.tup [enc (.call w o' k f p q m n),.list ((k.lst p q).map xi),ax f,.bool (gB e)]
 | _=>.none
noncomputable def VS:aa->Int
 | .inst _ fs=>match bZ fs bj with
  | some (.int i)=>i
  | _=>0
 | _=>0
end Mn.Q
end
section
namespace Mn.Q
set_option autoImplicit true
noncomputable abbrev U:aa:=.bw 1 0
noncomputable def Ok(u:List (Int×aa))(e:E):Prop:=UO u e/\sz e < 100000
section
variable{d n:Nat}{h:Hp}{u:List (Int×aa)}{e f p q t v r:E}
theorem Ok.of(o:Ok u e)(x:E)(h1:∀y∈ny x,y∈ny e)(h2:sz x<=sz e):Ok u x:=⟨λy hy=>o.1 y (h1 y hy),bJ h2 o.2⟩
theorem Ok.wr(o:Ok u (.wr k e n)):Ok u e:=o.of e (λ_ h=>h) (aJ _ 1)
theorem Ok.mem(o:Ok u (.mem b c e n)):Ok u e:=o.of e (λ_ h=>h) (aJ _ 1)
theorem Ok.idx(o:Ok u (.idx b c e n)):Ok u e:=o.of e (λ_ h=>cu _ h) (aJ _ 2)
theorem Ok.cf(o:Ok u (.call w b k f p q m n)):Ok u f:=o.of f (λ_ h=>cu _ (cu _ h)) (ai (aJ _ _) (ai (aJ _ _) (aJ _ 5)))
theorem Ok.cp(o:Ok u (.call w b k f p q m n)):Ok u p:=o.of p (λ_ h=>cu _ (c6 _ h)) (ai (hX _ _) (ai (aJ _ _) (aJ _ 5)))
theorem Ok.cq(o:Ok u (.call w b k f p q m n)):Ok u q:=o.of q (λ_ h=>c6 _ h) (ai (hX _ _) (aJ _ 5))
theorem Ok.at(o:Ok u (.asg k t v n)):Ok u t:=o.of t (λ_ h=>cu _ (cu _ h)) (ai (aJ _ _) (aJ _ 7))
theorem Ok.av(o:Ok u (.asg k t v n)):Ok u v:=o.of v (λ_ h=>cu _ (c6 _ h)) (ai (hX _ _) (aJ _ 7))
theorem Ok.un(o:Ok u (.un s e n)):Ok u e:=o.of e (λ_ h=>h) (aJ _ 1)
theorem Ok.upd(o:Ok u (.upd s e n)):Ok u e:=o.of e (λ_ h=>h) (aJ _ 1)
theorem Ok.fn(o:Ok u (.fn e m n)):Ok u e:=o.of e (λ_ h=>h) (aJ _ 4)
theorem Ok.cls(o:Ok u (.cls e i j k n)):Ok u e:=o.of e (λ_ h=>h) (aJ _ 8)
theorem Ok.bl(o:Ok u (.bin s p q n)):Ok u p:=o.of p (λ_ h=>cu _ h) (ai (aJ _ _) (aJ _ 1))
theorem Ok.br(o:Ok u (.bin s p q n)):Ok u q:=o.of q (λ_ h=>c6 _ h) (ai (hX _ _) (aJ _ 1))
theorem Ok.p1(o:Ok u (.pick p q r n)):Ok u p:=o.of p (λ_ h=>cu _ (cu _ h)) (ai (aJ _ _) (ai (aJ _ _) (aJ _ 1)))
theorem Ok.p2(o:Ok u (.pick p q r n)):Ok u q:=o.of q (λ_ h=>cu _ (c6 _ h)) (ai (hX _ _) (ai (aJ _ _) (aJ _ 1)))
theorem Ok.p3(o:Ok u (.pick p q r n)):Ok u r:=o.of r (λ_ h=>c6 _ h) (ai (hX _ _) (aJ _ 1))
noncomputable def pl:E->Nat
 | .wr _ e _=>pl e + 1
 | .mem _ _ e _=>pl e + 1
 | .idx _ _ e _=>pl e + 1
 | .call _ _ _ f _ _ _ _=>pl f + 1
 | .asg _ t _ _=>pl t + 1
 | .un _ e _=>pl e + 1
 | .bin _ p _ _=>pl p + 1
 | _=>0
theorem zK(e:E):pl e<=sz e:=by
 have a:∀{x y},x<=y->x + 1<=y + 1:=ee
 induction e with
 | wr _ _ _ h=>exact a h
 | mem _ _ _ _ h=>exact a h
 | idx _ _ _ _ h=>exact Nat.le_succ_of_le (a h)
 | call _ _ _ _ _ _ _ _ h=>exact ai (a h) (eX (ai (aJ _ _) (aJ _ _)) (bY rfl))
 | asg _ _ _ _ h=>exact ai (a h) (eX (aJ _ _) (bY rfl))
 | un _ _ _ h=>exact a h
 | bin _ _ _ _ h=>exact a (ai h (aJ _ _))
 | _=>exact bP _
theorem ph{i:Nat}{b:List MS}{env:Env}{r:aa×Hp}(o:Ok u e)(H:∀n,(lo i b (n + pl e) env h r).ok d):(lo i b 1048575 env h r).ok d:=
 (congrArg (λn=>lp d b i (n + 1) env h) (Nat.sub_add_cancel (ai (zK e) (Nat.le_of_lt (eG o.2 (bY rfl)))):1048575 - pl e + pl e=1048575)).symm.trans (H _)
theorem LJ{i:Nat}{b:List MS}{env:Env}{r:aa×Hp}(o:Ok u e)(H:∀n,(lo i b (n + pl e + 1) env h r).ok d):(lo i b 1048575 env h r).ok d:=
 (congrArg (λn=>lp d b i (n + 2) env h) (Nat.sub_add_cancel (ai (zK e) (Nat.le_of_lt (eG o.2 (bY rfl)))):1048574 - pl e + pl e=1048574)).symm.trans (H _)
theorem rn:∀(l:List Nm) (c:Nm),fH (l++[c])=fH l++46::c.s
 | [],c=>(cY (46::c.s)).symm▸rfl
 | a::l,c=>(congrArg (λx=>46::(a.s++x)) (rn l c)).trans (congrArg (46::·) (cL ..).symm)
theorem KV(r:Option Path)(c:Nm)(t:Sx):rs (rU r c) t=rs r (46::(c.s++t)):=match r with
 | none=>rfl
 | some p=>show p.1.s++fH (p.2++[c])++t=p.1.s++fH p.2++46::(c.s++t) by rw [rn,<-cL,cL];rfl
noncomputable def Xc:Option Nm->aa | none=>.none | some c=>.str c.s
noncomputable def RD(h:Hp)(a:aa)(c:Nm):Gl:=cl F.f9 [a] h (.str c.s,h)
theorem uf{o t e m c}(q:t.nm=some c):(RD h (enc (.idx o t e m)) c).ok (d+2):=match t,q with
 | .str c m,q=>ay q▸(by kernel_rfl)
 | .rO c m,q=>ay q▸(by kernel_rfl)
theorem DX{o c e m}:(RD h (enc (.mem o c e m)) c).ok d:=by kernel_rfl
noncomputable def VJ:Option Rt->aa | none=>.str [] | some r=>.str r.s
theorem z8(hu:h.get U=some (.eg u)):some (gI h U)=some true:=congrArg (λo=>some (ie o (λ_=>true) (oF o (λ_=>true) false))) hu
theorem nA{n k:Nat}(h:n<=k)(q:Nat.ble (k + 1) LF=true):n < LF:=bJ h (bY q)
theorem Ms(hu:h.get U=some (.eg u)){m:Int}{x:Option aa}(z:aa)(e:cU u m=x):yF h U (.int m) z=some (x.getD z):=e▸congrArg (λo=>ie o (λkvs=>aa.iH (.int m) (λs=>some ((bZ kvs s).getD z)) none) (oF o (λkvs=>some ((cU kvs m).getD z)) none)) hu
noncomputable def VM(h:Hp)(s:Nt)(m:Nat):Gl:=cl F.vL [enc (.nm s m),U] h (VJ s.rt,h)
theorem OX(hu:h.get U=some (.eg u)){s:Nt}{m:Nat}(e:cU u (m:Int)=s.Ci):(VM h s m).ok d:=by
 cases s <;> exact run [.p 16 (z8 hu),.w 3 (Ms hu (.int 0) e)]
theorem E9(c:Nm)(t:Sx):(46::(c.s++t)).length=t.length + 2:=by cases c <;> rfl
theorem xX{a k B:Nat}(hl:a + 2 * (k + 1)<=B)(c:Nm){t:Sx}(e:t.length=a):(46::(c.s++t)).length + 2 * k<=B:=by
 rw [E9,e,Nat.add_right_comm];exact hl
theorem IU(k:Wk)(h:Hp):ck h .in (.int k.k) (.tup [.int 33,.int 32,.int 20])=some true:=by cases k <;> rfl
theorem Kg(k:Wk)(h:Hp):ck h .in (.int k.k) (.tup [.int 33,.int 20,.int 32])=some true:=by cases k <;> rfl
theorem Dn{t:Sx}{k:Nat}(a:Nat)(q:Nat.ble a 8=true)(hl:t.length + k<=1048500):a + t.length < LF:=bJ (eX (bY q) (ai (aJ _ _) hl)) (bY rfl)
theorem aI{a b:Nat}(h:Nat.ble (a + 1) b=true):a < b:=bY h
noncomputable def Rx(h:Hp)(a:aa)(r:Option Path)(n:Nat)(t:Sx)(v3 v4:aa):Gl:=lo 1 tu n [a,U,.str t,v3,v4] h (.str (rs r t),h)
noncomputable def WX(d:Nat)(h:Hp)(u:List (Int×aa))(e:E):Prop:=UO u e->∀(n:Nat) (t:Sx) (v3 v4:aa),t.length + 2 * pl e<=1048500->(Rx h (enc e) (ref e) (n + pl e) t v3 v4).ok (d+3)
theorem Dp{K:Int}{a:aa}{ks:List aa}{fl:Int}{m k:Nat}{c:Nm}{t:Sx}{v3 v4:aa}(hK:∀h,ck h .in (.int K) (.tup [.int 16,.int 17])=some true)(hJ:∀h,ck h .in (.int K) (.tup [.int 33,.int 32,.int 20])=some false)(hm:(RD h (nd K a (enc e::ks) fl m) c).ok (d+2))(hl:t.length + 2 * (k + 1)<=1048500)
  (i:(Rx h (enc e) (ref e) n (46::(c.s++t)) (.str c.s) v4).ok (d+3)):(Rx h (nd K a (enc e::ks) fl m) (rU (ref e) c) (n + 1) t v3 v4).ok (d+3):=by
 unfold Rx;rw [KV]
 have n1:(46::c.s).length + t.length < LF:=Dn _ (by cases c <;> rfl) hl
 have n2:∀h,ck h .in (.str [46]) (.str c.s)=some false:=λh=>by cases c <;> rfl
 have n3:([46]:Sx).length + c.s.length < LF:=by cases c <;> exact aI rfl
 exact run [.q 1 hJ,.q 1 hK,.g hm,.s 1 1,.q 1 n2,.n n3,.n n1,.l i]
theorem OY(hu:h.get U=some (.eg u))(e:E):WX d h u e:=by
 induction e with
 | nm s m=>
  intro o n t v3 v4 hl
  have e:=OX (d:=d+2) hu (o _ aF)
  cases s with
  | g=>exact run [.g e]
  | _=>exact run [.g e,.n (Dn 2 rfl hl)]
 | this m=>exact λo n t v3 v4 hl=>run [.n (Dn 4 rfl hl)]
 | wr k e m i=>exact λo n t v3 v4 hl=>run [.q 1 (IU k),.l (i o n t v3 v4 (Nat.le_of_succ_le (Nat.le_of_succ_le hl)))]
 | mem p c e m i=>exact λo n t v3 v4 hl=>Dp (λ_=>rfl) (λ_=>rfl) DX hl (i o n _ _ v4 (xX hl c rfl))
 | idx p k e m i=>exact λo n t v3 v4 hl=>match k with
   | .y j=>run []
   | .str c j=>Dp (λ_=>rfl) (λ_=>rfl) (uf rfl) hl (i (λq hq=>o q (cu _ hq)) n _ _ v4 (xX hl c rfl))
   | .rO c j=>Dp (λ_=>rfl) (λ_=>rfl) (uf rfl) hl (i (λq hq=>o q (cu _ hq)) n _ _ v4 (xX hl c rfl))
 | call w=>cases w <;> exact λo n t v3 v4 hl=>run []
 | bin s=>cases s <;> exact λo n t v3 v4 hl=>run []
 | _=>exact λo n t v3 v4 hl=>run []
noncomputable def zH(h:Hp)(e:E):Gl:=cl F.mZ [enc e,U] h (.str (dz (ref e)),h)
theorem Ds(hu:h.get U=some (.eg u))(o:Ok u e):(zH h e).ok (d+3):=
 run [.l (ph o λn=>OY (d:=d) hu e o.1 n [] .undef .undef (ai (dB (Nat.mul_le_mul_left 2 (Nat.le_of_lt (bJ (zK e) o.2))) _) (bY rfl)))]
noncomputable def VA(h:Hp)(e:E)(n:Nat):Gl:=lo 0 n9 (n + pl e) [enc e,U] h (.str (dz (aS e)),h)
noncomputable def WQ(d:Nat)(h:Hp)(u:List (Int×aa))(e:E):Prop:=Ok u e->∀n,(VA h e n).ok (d+4)
theorem tP(hu:h.get U=some (.eg u))(e:E):WQ d h u e:=by
 have R:∀{e},Ok u e->(zH h e).ok (d+3):=Ds hu
 induction e with
 | wr k e m i=>exact λo n=>run [.q 1 (IU k),.l (i o.wr n)]
 | asg k t v m i=>exact λo n=>match k with
   | .op .add=>run [.g (R o)]
   | .op .set=>run [.l (i o.at n)]
   | .op .and=>run [.l (i o.at n)]
   | .op .or=>run [.l (i o.at n)]
   | .op .nul=>run [.l (i o.at n)]
   | .p4 _ _=>run []
   | .p5 _ _ _ _=>run []
   | .p6 _ _=>run []
 | call w=>cases w <;> exact λo n=>run [.g (R o)]
 | bin s=>cases s <;> exact λo n=>run [.g (R o)]
 | _=>exact λo n=>run [.g (R o)]
noncomputable def zr(h:Hp)(e:E):Gl:=cl F.jl [enc e,U] h (.str (dz (aS e)),h)
theorem gO(hu:h.get U=some (.eg u))(o:Ok u e):(zr h e).ok (d+4):=run [.l (ph o (tP hu e o))]
noncomputable def Wc(h:Hp)(e:E)(n:Nat):Gl:=lo 0 Av (n + pl e) [enc e] h (enc (jc e),h)
noncomputable def WZ(d:Nat)(h:Hp)(e:E):Prop:=∀n,(Wc h e n).ok d
theorem Ex(e:E):WZ d h e:=by
 induction e with
 | wr k e m i=>exact λn=>run [.q 1 (Kg k),.l (i n)]
 | call w=>cases w <;> exact λn=>run []
 | bin s=>cases s <;> exact λn=>run []
 | _=>exact λn=>run []
noncomputable def uG(h:Hp)(a:aa)(e:E):Gl:=cl F.inner [a] h (enc (jc e),h)
theorem kL(h:Hp)(o:Ok u e):(uG h (enc e) e).ok d:=run [.l (ph o (Ex (h:=h) e))]
noncomputable def UU(h:Hp)(a:aa)(e:E):Gl:=cl F.jE [a,U] h (BE (jd e),h)
noncomputable def W3(d:Nat)(h:Hp)(u:List (Int×aa))(a:aa)(e:E):Prop:=Ok u e->(uG h a e).ok (d+4)->(UU h a e).ok (d+5)
theorem Qf(hu:h.get U=some (.eg u)){a:aa}(ha:gj a=true)(e:E):W3 d h u a e:=by
 have T:∀{e},Ok u e->(zr h e).ok (d+4):=gO hu
 induction e with
 | wr k e m ih=>exact λo i=>ih o.wr i
 | mem p c e m=>exact λo i=>run [.u ha,.g i,.s 104 1,.g (T o.mem)]
 | idx p t e m=>exact λo i=>match t with
  | .y _=>run [.u ha,.g i]
  | .str _ _=>run [.u ha,.g i,.s 104 1,.g (T o.idx)]
  | .rO _ _=>run [.u ha,.g i,.s 104 1,.g (T o.idx)]
 | call w=>cases w <;> exact λo i=>run [.u ha,.g i]
 | bin s=>cases s <;> exact λo i=>run [.u ha,.g i]
 | _=>exact λo i=>run [.u ha,.g i]
theorem EC(hu:h.get U=some (.eg u))(o:Ok u e):(UU h (enc e) e).ok (d+5):=Qf hu rfl e o (kL h o)
theorem H7(k:Path)(o:Bool)(x:Option Path×Nat)(l:List (Option Path×Nat)):wI k (Cm o x l)=(o&&(dz x.1==dot k) ||wI k l):=by cases o <;> rfl
noncomputable def QZ(h:Hp)(k:Path)(n:Nat)(a:aa)(l:List (Option Path×Nat)):Gl:=lo 1 lY n [a,.str (dot k),U] h (.bool (wI k l),h)
theorem Fg(hu:h.get U=some (.eg u)){k:Path}{K:Int}{a:aa}{ks:List aa}{p:Bool}{l:List (Option Path×Nat)}(hK:∀h,ck h .in (.int K) (.tup [.int 16,.int 17,.int 18])=some true)(o:Ok u e)(i:(QZ h k n (enc (jc e)) l).ok (d+5)):
  (QZ h k (n+1) (nd K a (enc e::ks) (oi p) m) (Cm p (aS e,bW e) l)).ok (d+5):=by
 unfold QZ;rw [H7]
 cases p with
 | false=>exact run [.q 1 hK,.s 104 1,.g (kL h o),.l i]
 | true=>cases q:dz (aS e)==dot k with
  | false=>exact run [.q 1 hK,.s 104 1,.g (gO hu o),.d q,.g (kL h o),.l i]
  | true=>exact run [.q 1 hK,.s 104 1,.g (gO hu o),.d q]
noncomputable def Xa(d:Nat)(h:Hp)(u:List (Int×aa))(k:Path)(e:E):Prop:=Ok u e->∀n,(QZ h k (n + pl e) (enc (jc e)) (holds e)).ok (d+5)
theorem QY(hu:h.get U=some (.eg u)){k:Path}(e:E):Xa d h u k e:=by
 induction e with
 | wr w e m ih=>exact λo n=>(congrArg (λm=>(QZ h k m (enc (jc e)) (holds e)).ok (d+5)) (Nat.add_right_comm n 1 (pl e))).mp (ih o.wr (n + 1))
 | mem p c e m ih=>exact λo n=>Fg hu (λ_=>rfl) o.mem (ih o.mem n)
 | idx p t e m ih=>exact λo n=>Fg hu (λ_=>rfl) o.idx (ih o.idx n)
 | call w p a f _ _ _ _ ih=>exact λo n=>match w with
  | true=>run []
  | false=>Fg hu (λ_=>rfl) o.cf (ih o.cf n)
 | bin s=>cases s <;> exact λo n=>run []
 | _=>exact λo n=>run []
noncomputable def MW(h:Hp)(k:Path)(e:E):Gl:=cl F.gm [enc e,.str (dot k),U] h (.bool (wI k (holds e)),h)
theorem ry(hu:h.get U=some (.eg u)){k:Path}(o:Ok u e):(MW h k e).ok (d+5):=run [.g (kL h o),.l (ph o (QY (k:=k) hu e o))]
theorem jF(e:E)(h:Hp):aY h (BE (jd e)) (.int 0)=some (.str (ra e)):=by
 unfold ra;cases jd e <;> rfl
noncomputable def QS(h:Hp)(k:Path)(e:E)(b:Bool):Gl:=cl F.kS [AV,enc e,.str (dot k)] h (.bool b,h)
theorem pB(hu:h.get U=some (.eg u)){k:Path}(o:Ok u e):(QS h k e (tells e k)).ok (d+6):=by
 unfold tells
 cases q:dz (aS e)==dot k with
 | true=>exact run [.g (gO hu o),.d q]
 | false=>cases q2:ra e==dot k with
  | true=>exact run [.g (gO hu o),.d q,.g (EC hu o),.v 0 (jF e),.d q2]
  | false=>exact run [.g (gO hu o),.d q,.g (EC hu o),.v 0 (jF e),.d q2,.g (ry (k:=k) hu o)]
noncomputable abbrev spT:aa:=.tup [.int 33,.int 20,.int 32,.int 16,.int 23,.int 21]
noncomputable def VD(h:Hp)(e:E)(n:Nat)(v:aa):Gl:=lo 0 pC (n + pl e) [enc e,v] h (oV (h9 e),h)
noncomputable def WT(d:Nat)(h:Hp)(e:E):Prop:=∀(n:Nat) (v:aa),(VD h e n v).ok d
theorem CV(e:E):WT d h e:=by
 induction e with
 | wr k e m i=>exact λn v=>run [.l (i n spT)] (by cases k <;> kernel_rfl)
 | mem p c e m i=>exact λn v=>run [.l (i n spT)]
 | un s e m i=>exact λn v=>run [.l (i n spT)]
 | bin s e a m i=>exact λn v=>match s with
   | .eq=>run [.l (i n spT)]
   | .plus=>run [.l (i n spT)]
   | .and=>run []
   | .or=>run []
   | .nul=>run []
 | call w=>cases w <;> exact λn v=>run []
 | _=>exact λn v=>run []
noncomputable def CW(h:Hp)(e:E):Gl:=cl F.oy [enc e] h (oV (h9 e),h)
theorem vE(h:Hp)(o:Ok u e):(CW h e).ok d:=run [.l (ph o λn=>CV (h:=h) e n .undef)]
noncomputable def VF(h:Hp)(e:E)(n:Nat):Gl:=lo 0 pD (n + pl e) [enc e] h (.bool (gB e),h)
noncomputable def WV(d:Nat)(h:Hp)(e:E):Prop:=∀n,(VF h e n).ok (d+1)
theorem Dc(e:E):WV d h e:=by
 induction e with
 | wr k e m i=>exact λn=>match k with
  | .chain=>run []
  | .paren=>run [.l (i n)]
  | .eh=>run [.l (i n)]
 | mem p c e m i=>exact λn=>match p with
  | true=>run []
  | false=>run [.l (i n)]
 | idx p c e m i=>exact λn=>match p with
  | true=>run []
  | false=>run [.l (i n)]
 | call w p a f _ _ _ _ i=>exact λn=>match w,p with
  | true,_=>run []
  | false,true=>run []
  | false,false=>run [.l (i n)]
 | bin s=>cases s <;> exact λn=>run []
 | _=>exact λn=>run []
noncomputable def KL(h:Hp)(e:E):Gl:=cl F.oz [enc e] h (.bool (gB e),h)
theorem C9(h:Hp)(o:Ok u e):(KL h e).ok (d+1):=run [.l (ph o (Dc (h:=h) e))]
end
end Mn.Q
end
section
noncomputable def Mn.Hp.up(h:Mn.Hp)(m:Nat):Mn.Hp:={h with n:=m}
namespace Mn.Q
set_option autoImplicit true
noncomputable def iN(h:Hp):Prop:=∀p∈h.D,p.1 < h.n
theorem NS(n:Nat):Nat.beq n n=true:=Nat.beq_refl n
theorem UD{a b:Nat}(h:a < b):Nat.beq a b=false:=by
 cases q:Nat.beq a b with
 | true=>exact absurd h (jM q▸Nat.lt_irrefl _)
 | false=>rfl
theorem xt{a b:Nat}(h:b < a):Nat.beq a b=false:=by
 cases q:Nat.beq a b with
 | true=>exact absurd h (jM q▸Nat.lt_irrefl _)
 | false=>rfl
section
variable{D:List (Nat×ak)}{i j:Nat}{x o:ak}{r:List (Nat×ak)}
theorem eF(e:∀p∈D,p.1 < i):d4 D i=D:=by
 induction D with
 | nil=>rfl
 | cons p r ih=>exact (congrArg (λb=>bif b then d4 r i else p::d4 r i) (UD (e p aF))).trans (congrArg (p::·) (ih λq hq=>e q (bB _ hq)))
theorem eE:lK ((i,x)::r) i o=(i,o)::r:=congrArg (λb=>bif b then (i,o)::r else _) (NS i)
theorem jK(e:Nat.beq j i=false):lK ((j,x)::r) i o=(j,x)::lK r i o:=congrArg (λb=>bif b then _ else (j,x)::lK r i o) e
theorem cC:d4 ((i,x)::r) i=d4 r i:=congrArg (λb=>bif b then d4 r i else _) (NS i)
theorem dH(e:Nat.beq j i=false):d4 ((j,x)::r) i=(j,x)::d4 r i:=congrArg (λb=>bif b then _ else (j,x)::d4 r i) e
theorem bz:d0 ((i,x)::r) i=some x:=congrArg (λb=>bif b then some x else d0 r i) (NS i)
theorem dG(e:Nat.beq j i=false):d0 ((j,x)::r) i=d0 r i:=congrArg (λb=>bif b then some x else d0 r i) e
end
section
variable{h:Hp}{l x:aa}{xs ys:List aa}
theorem ql{α:Type}{n:Nat}{m:HM α}(hn:n < LF):sm n m=m:=show (bif small n then m else no)=m by rw [show small n=true from decide_eq_true hn];rfl
theorem gU{α β:Type}{l:List α}{x:β}(hn:l.length < LF):rP l x=some x:=show (bif small l.length then some x else none)=_ by rw [show small l.length=true from decide_eq_true hn];rfl
theorem gA(e:h.get l=some (.list xs))(hn:xs.length < LF):cz l x h=some (.none,h.put l (.list (xs++[x]))):=(congrArg (λo=>oL o (λxs=>sm xs.length (vo λh=>h.put l (.list (xs++[x])))) no h) e).trans (congrFun (ql hn) h)
theorem E0(e:h.get l=some (.list xs))(hn:xs.length + ys.length < LF):lx l ys h=some (.none,h.put l (.list (xs++ys))):=(congrArg (λo=>oL o (λxs=>sm (xs.length + ys.length) (vo λh=>h.put l (.list (xs++ys)))) no h) e).trans (congrFun (ql hn) h)
theorem Dy(e:h.get l=some (.list (xs++[x])))(hn:xs.length + 1 < LF):DA l h=some (x,h.put l (.list xs)):=(congrArg (λo=>oL o (λxs=>oS xs.getLast? (λy=>sm xs.length λh=>some (y,h.put l (.list xs.dropLast))) no) no h) e).trans (by
 show oS (xs++[x]).getLast? _ no h=_
 rw [List.getLast?_concat]
 exact (congrFun (ql (List.length_append (as:=xs) (bs:=[x])▸hn)) h).trans (by rw [List.dropLast_concat]))
theorem xE{i:Nat}(e:h.get (.af i)=some (.list xs)):truth h (.af i)=rP xs !xs.isEmpty:=congrArg (λo=>oL o (λs=>rP s !s.isEmpty) <| ie o (λs=>rP s !s.isEmpty) <| oF o (λs=>rP s !s.isEmpty) none) (e:bH h (.af i)=_)
theorem CG{i:Nat}(e:h.get (.af i)=some (.list (xs++[x])))(hl:xs.length + 1 < LF):truth h (.af i)=some true:=(xE e).trans ((gU (List.length_append (as:=xs) (bs:=[x])▸hl)).trans (by cases xs <;> rfl))
theorem cJ(e:h.get l=some (.list xs)):some (fF h l)=some true:=congrArg (λo=>some (oL o (λ_=>true) false)) e
noncomputable def Ij(v:aa)(ks:List Sx)(o:Option ak):HM aa:=oL o (λxs=>te v (aj (.list xs))) <| ie o (λkvs=>te v (aL (d5 kvs ks) λkvs=>aj (.sd kvs))) <| oF o (λkvs=>te v (aj (.eg kvs))) <|
  FZ o (λc did=>rQ (.af did) λo=>DK o (λkvs=>te v (te (.af did) (aj (.inst c kvs)))) no) no
theorem kQ{i:Nat}{ks:List Sx}(e:h.get (.af i)=some (.list xs)):yH (.af i) ks h=some (.list xs,h.del (.af i)):=congrArg (λo=>Ij (.af i) ks o h) e
end
noncomputable def h2(h:Hp)(O W:List aa):Hp:={h with D:=(h.n + 1,.list W)::(h.n,.list O)::h.D,n:=h.n + 2}
section
variable{h:Hp}{O W:List aa}{x y:aa}{d:Nat}
theorem gL:(h2 h O W).get (.af (h.n + 1))=some (.list W):=bz
theorem uL:(h2 h O W).get (.af h.n)=some (.list O):=(dG (xt (cZ _))).trans bz
theorem uK{W'}:(h2 h O W).put (.af (h.n + 1)) (.list W')=h2 h O W':=congrArg (λD=>({G:=h.G,D:=D,n:=h.n + 2}:Hp)) eE
theorem H8{O'}:(h2 h O W).put (.af h.n) (.list O')=h2 h O' W:=
 congrArg (λD=>({G:=h.G,D:=D,n:=h.n + 2}:Hp)) ((jK (xt (cZ _))).trans (congrArg _ eE))
theorem Mh(h O W x)(hl:W.length + 1 < LF):DA (.af (h.n + 1)) (h2 h O (W++[x]))=some (x,h2 h O W):=(Dy gL hl).trans (congrArg (λh=>some (x,h)) uK)
theorem H9(h O W x)(hl:W.length < LF):cz (.af (h.n + 1)) x (h2 h O W)=some (.none,h2 h O (W++[x])):=(gA gL hl).trans (congrArg (λh=>some (aa.none,h)) uK)
theorem Ia(h O W x)(hl:O.length < LF):cz (.af h.n) x (h2 h O W)=some (.none,h2 h (O++[x]) W):=(gA uL hl).trans (congrArg (λh=>some (aa.none,h)) H8)
theorem yD(h O W ys)(hl:W.length + ys.length < LF):lx (.af (h.n + 1)) ys (h2 h O W)=some (.none,h2 h O (W++ys)):=(E0 gL hl).trans (congrArg (λh=>some (aa.none,h)) uK)
noncomputable def tk(h:Hp)(O W:List aa)(x:aa)(hl:W.length + 1 < LF)(r:List (Fact d)):List (Fact d):=.p 9 (CG (x:=x) (gL (h:=h) (O:=O)) hl):: .a 10 (Mh h O W x hl)::r
noncomputable def J8(h:Hp)(O W:List aa)(x:aa)(hl:W.length < LF)(r:List (Fact d)):List (Fact d):=.p 16 (cJ (gL (h:=h) (O:=O) (W:=W))):: .a 17 (H9 h O W x hl)::r
noncomputable def TV(h:Hp)(O W:List aa)(x:aa)(hl:O.length < LF)(r:List (Fact d)):List (Fact d):=.p 16 (cJ (uL (h:=h) (O:=O) (W:=W))):: .a 17 (Ia h O W x hl)::r
noncomputable def Xd(h:Hp)(O W ys:List aa)(hl:W.length + ys.length < LF)(r:List (Fact d)):List (Fact d):=.p 16 (cJ (gL (h:=h) (O:=O) (W:=W))):: .a 17 (yD h O W ys hl)::r
theorem Mi(hd:iN h):yH (.af h.n) [] (h2 h O W)=some (.list O,{h with D:=(h.n + 1,.list W)::h.D,n:=h.n + 2}):=
 (kQ uL).trans (congrArg (λD=>some (aa.list O,({G:=h.G,D:=D,n:=h.n + 2}:Hp))) ((dH (xt (cZ _))).trans (congrArg _ (cC.trans (eF hd)))))
theorem Mj(hd:iN h):Hp.del {h with D:=(h.n + 1,.list W)::h.D,n:=h.n + 2} (.af (h.n + 1))=h.up (h.n + 2):=
 congrArg (λD=>({G:=h.G,D:=D,n:=h.n + 2}:Hp)) (cC.trans (eF λp hp=>Nat.lt_succ_of_lt (hd p hp)))
noncomputable def UZ(O:List aa)(hd:iN h):List (Fact d):=[.p 9 (xE (gL (h:=h) (O:=O) (W:=[]))),.a 12 (Mi (O:=O) (W:=[]) hd),.x (Mj (W:=[]) hd)]
end
theorem E.lj{P:E->Prop}(nm:∀s m,P (.nm s m))(mem:∀o c e m,P (.mem o c e m))(idx:∀o t e m,P (.idx o t e m))(t:E)(ht:eN t=true):P t:=by
 cases t with
 | nm=>exact nm _ _
 | mem=>exact mem _ _ _ _
 | idx=>exact idx _ _ _ _
 | _=>exact absurd ht Bool.false_ne_true
theorem E.qX{P:E->Prop}(asg:∀k t v n,P (.asg k t v n))(upd:∀b t n,P (.upd b t n))(del:∀t n,P (.un .del t n))(e:E)(hi:isSet e=true):P e:=by
 cases e with
 | asg=>exact asg _ _ _ _
 | upd=>exact upd _ _ _
 | un s=>cases s with
  | del=>exact del _ _
  | _=>exact absurd hi Bool.false_ne_true
 | _=>exact absurd hi Bool.false_ne_true
section
variable{d n:Nat}{h:Hp}{u:List (Int×aa)}{k:Path}{O W:List aa}{x0 v3 v4:aa}{t e:E}
theorem Kq(ht:eN t=true):(∀h,ck h .in (.int (bV t)) (.tup [.int 36,.int 33,.int 32,.int 20,.int 29,.int 31])=some false)/\∀h,ck h .in (.int (bV t)) (.tup [.int 34,.int 35])=some false:=
 E.lj (P:=λt=>(∀h,ck h .in (.int (bV t)) (.tup [.int 36,.int 33,.int 32,.int 20,.int 29,.int 31])=some false)/\∀h,ck h .in (.int (bV t)) (.tup [.int 34,.int 35])=some false) (λ_ _=>⟨λ_=>rfl,λ_=>rfl⟩) (λ_ _ _ _=>⟨λ_=>rfl,λ_=>rfl⟩) (λ_ _ _ _=>⟨λ_=>rfl,λ_=>rfl⟩) t ht
noncomputable def lf(h:Hp)(O W:List aa)(t:E)(ht:eN t=true)(hl:W.length + 1 < LF)(ho:O.length < LF)(r:List (Fact d)):List (Fact d):=tk h O W (enc t) hl (.q 1 (Kq ht).1:: .q 1 (Kq ht).2::TV h O W (enc t) ho r)
noncomputable def le(h:Hp)(O:List aa)(t:E)(ht:eN t=true)(hd:iN h)(ho:O.length < LF):List (Fact d):=lf h O [] t ht (aI rfl) ho (UZ (O++[enc t]) hd)
noncomputable def Q4(h:Hp)(O W:List aa)(x:aa)(hl:W.length + 1 < LF)(r:List (Fact d)):List (Fact d):=J8 h O W x (Nat.lt_of_succ_lt hl) (tk h O W x hl r)
noncomputable def O9(h:Hp)(a:aa)(l:List aa):Gl:=cl F.gX [a] h (.list l,h.up (h.n+2))
theorem DB(hd:iN h)(ht:eN t=true):(O9 h (enc t) [enc t]).ok d:=run (le h [] t ht hd (aI rfl))
noncomputable def Uv(h:Hp)(e:E)(n:Nat)(x0 v3:aa):Gl:=lo 2 jh (n + pl e + 1) [x0,.af h.n,.af (h.n+1),v3,.undef] (h2 h [] [enc e]) (.list [enc (jc e)],h.up (h.n+2))
noncomputable def Vj(d:Nat)(h:Hp)(e:E):Prop:=eN (jc e)=true->∀n x0 v3,(Uv h e n x0 v3).ok d
theorem Ld(hd:iN h)(e:E):Vj d h e:=by
 have tg:∀e,eN e=true->jc e=e->Vj d h e:=λe ht q _ n x0 v3=>by
  unfold Uv;rw [q];exact run (le h [] e ht hd (aI rfl))
 induction e with
 | wr k e m ih=>exact λht n x0 v3=>run (tk h [] [] (enc (.wr k e m)) (aI rfl) (J8 h [] [] (enc e) (aI rfl) [.l (ih ht n x0 (enc (.wr k e m)))])) (by cases k <;> kernel_rfl)
 | _=>exact λht=>tg _ ht rfl ht
theorem SH(hd:iN h){b p:Nat}(ht:eN t=true):(O9 h (Pk.pat t (.p4 b p)) [enc t]).ok d:=
 run (tk h [] [] (Pk.pat t (.p4 b p)) (aI rfl) (Q4 h [] [] (bind fE (enc t) 0 b) (aI rfl) (J8 h [] [] (enc t) (aI rfl) (le h [] t ht hd (aI rfl)))))
theorem SD(hd:iN h){b p:Nat}(ht:eN t=true):(O9 h (Pk.pat t (.p6 b p)) [enc t]).ok d:=
 run (tk h [] [] (Pk.pat t (.p6 b p)) (aI rfl) (J8 h [] [] (bind [] (enc t) 0 b) (aI rfl) (.s 9 1::tk h [] [] (bind [] (enc t) 0 b) (aI rfl) (J8 h [] [] (enc t) (aI rfl) (le h [] t ht hd (aI rfl))))))
theorem SG(hd:iN h){b x c p:Nat}(ht:eN t=true):(O9 h (Pk.pat t (.p5 b x c p)) [enc t,enc (.nm .x x)]).ok d:=
 let r:=bind [] (nd 8 (.str Hv) [] 0 x) 8192 c
 run (tk h [] [] (Pk.pat t (.p5 b x c p)) (aI rfl) (J8 h [] [] r (aI rfl) (Q4 h [] [r] (bind ou (enc t) 0 b) (aI rfl) (J8 h [] [r] (enc t) (aI rfl) (lf h [] [r] t ht (aI rfl) (aI rfl) (tk h [enc t] [] r (aI rfl) (J8 h [enc t] [] (enc (.nm .x x)) (aI rfl) (le h [enc t] (.nm .x x) rfl hd (aI rfl)))))))))
noncomputable def lC(e:E):Prop:=isSet e=true/\∀t∈fM e,eN t=true
noncomputable def Up(h:Hp)(e:E):Gl:=cl F.jm [enc e] h (.list ((fM e).map enc),h.up (h.n+2))
theorem IY(o:Ok u e)(ht:lC e)(hd:iN h):(Up h e).ok (d+1):=
 E.qX (P:=λe=>Ok u e->(∀t∈fM e,eN t=true)->(Up h e).ok (d+1))
  (λk t v m o ht=>match k,ht with
   | .op _,ht=>run [.g (DB hd (ht t aF))]
   | .p4 b p,ht=>run [.g (SH (b:=b) (p:=p) hd (ht t aF))]
   | .p5 b x c p,ht=>run [.g (SG (b:=b) (x:=x) (c:=c) (p:=p) hd (ht t aF))]
   | .p6 b p,ht=>run [.g (SD (b:=b) (p:=p) hd (ht t aF))])
  (λb t m o ht=>run [.g (DB hd (ht t aF))])
  (λt m o ht=>run [.g (run (G:=O9 h (enc t) [enc (jc t)]) [.l (LJ o.un λn=>Ld hd t (ht _ aF) n (enc t) .undef)])]) e ht.1 o ht.2
theorem Ok.jc(o:Ok u e):Ok u (jc e):=by
 revert o
 show (λe=>Ok u e->Ok u (Q.jc e)) e
 induction e with
 | wr k e m ih=>exact λo=>ih o.wr
 | _=>exact id
theorem bt{α:Type}{P:α->Prop}{x:α}(h:P x)(t:α)(m:t∈[x]):P t:=(List.mem_singleton.mp m).symm▸h
theorem tM(o:Ok u e)(hi:isSet e=true):∀t∈fM e,Ok u t:=
 E.qX (P:=λe=>Ok u e->∀t∈fM e,Ok u t)
  (λk t v m o=>match k,o with
   | .op _,o=>bt o.at
   | .p4 _ _,o=>bt o.at
   | .p5 b x c p,o=>λs hs=>(List.mem_cons.mp hs).elim (λe=>e▸o.at) (bt (P:=Ok u) (x:=.nm .x x) ⟨λy hy=>o.1 y (c6 _ hy),aI rfl⟩ s)
   | .p6 _ _,o=>bt o.at)
  (λb t m o=>bt o.upd) (λt m o=>bt o.un.jc) e hi o
theorem vz(e:E)(hi:isSet e=true):(fM e).length<=2:=
 E.qX (P:=λe=>(fM e).length<=2) (λk _ _ _=>match k with
  | .op _=>bY rfl
  | .p4 _ _=>bY rfl
  | .p5 _ _ _ _=>bY rfl
  | .p6 _ _=>bY rfl) (λ_ _ _=>bY rfl) (λ_ _=>bY rfl) e hi
theorem xC{m:Nat}{l:aa}:(h.up m).get l=h.get l:=by cases l <;> rfl
theorem bL{α β:Type}{m:HM α}{k:α->HM β}{h h':Hp}{a:α}{r:Option (β×Hp)}(e:m h=some (a,h'))(e2:k a h'=r):aL m k h=r:=(yT e).trans e2
theorem comp_map(h:Hp){α:Type}{f:aa->HM (Option aa)}{en g:α->aa}(xs:List α)(e:∀x∈xs,f (en x) h=some (some (g x),h)):dy f (xs.map en) h=some (xs.map g,h):=by
 induction xs with
 | nil=>rfl
 | cons x xs ih=>exact bL (e x aF) (bL (ih λy hy=>e y (bB _ hy)) rfl)
theorem jf{C:jj}{t:ji}{elt:ME}{env env':Env}{x y:aa}(e1:gq env t x=some env')(e:ev pg C elt env' h=some (y,h)):ov C t none elt env x h=some (some y,h):=
 (congrArg (λo=>hY o (λenv'=>aL (MB pg C none env') λq=>gJ q (aL (ev pg C elt env') λy=>aj (some y)) (aj none)) h) e1).trans (bL e rfl)
theorem d8{α β:Type}{f:α->β}{l:List α}(h:l.length < LF):(l.map f).length < LF:=(List.length_map f).symm▸h
noncomputable def Sk(h:Hp)(e:E):Gl:=cl F.j0 [enc e,U] h (.list ((fM e).map λt=>.str (dz (ref t))),h.up (h.n+2))
theorem IZ(hu:h.get U=some (.eg u))(o:Ok u e)(ht:lC e)(hd:iN h):(Sk h e).ok (d+4):=
 run [.g (IY o ht hd),.n (d8 (f:=enc) (nA (vz e ht.1) rfl)),.m (comp_map (h.up (h.n+2)) (f:=ov (aM pg (d+4)) (.v 2) none (.call F.mZ [.v 2,.v 1]) [enc e,U,.undef]) (g:=λt=>.str (dz (ref t))) (fM e) λt hm=>jf (env':=[enc e,U,enc t]) rfl (run (G:=ex 0 (.call F.mZ [.v 2,.v 1]) [enc e,U,enc t] (h.up (h.n+2)) (.str (dz (ref t)),h.up (h.n+2))) [.g (Ds (d:=d) (h:=h.up (h.n+2)) (xC.trans hu) (tM o ht.1 t hm))]))]
theorem rK{α:Type}{s:Sx}{g:α->Sx}(l:List α):xx (.str s) (l.map λt=>.str (g t))=some (l.any λt=>g t==s):=by
 induction l with
 | nil=>rfl
 | cons a l ih=>show oS (some (g a==s)) (λa=>oS (xx (.str s) (l.map λt=>.str (g t))) (λb=>some (a ||b)) none) none=_;rw [ih];rfl
theorem HZ{α:Type}(s:Sx)(g:α->Sx)(l:List α)(h:Hp):ck h .in (.str s) (.list (l.map λt=>.str (g t)))=some (l.any λt=>g t==s):=rK l
noncomputable def Pd(h:Hp)(k:Path)(e:E):Gl:=cl F.jL [AV,enc e,.str (dot k)] h (.bool (lR e k),h.up (h.n+2))
theorem t8(hu:h.get U=some (.eg u))(o:Ok u e)(ht:lC e)(hd:iN h):(Pd h k e).ok (d+5):=
 run [.g (IZ hu o ht hd),.q 1 (HZ (dot k) (λt=>dz (ref t)) (fM e))]
theorem E4(l:List Nm):(fH l).length=2 * l.length:=by
 induction l with
 | nil=>rfl
 | cons c l ih=>exact (E9 c _).trans (congrArg (· + 2) ih)
noncomputable def Vh(e:E):Prop:=∀p,ref e=some p->p.2.length<=sz e
theorem pP(e:E):Vh e:=by
 have key:∀{r:Option Path} {c:Nm} {m:Nat},(∀p,r=some p->p.2.length<=m)->∀p,rU r c=some p->p.2.length<=m + 1:=λ{r c m} h p e=>match r,h,e with
  | some q,h,e=>ay e▸(List.length_append (as:=q.2) (bs:=[c]))▸ee (h q rfl)
 have no:∀{e},ref e=none->Vh e:=λh p e=>nomatch h.symm.trans e
 induction e with
 | nm s m=>cases s with
  | g=>exact no rfl
  | _=>exact λp e=>ay e▸bP _
 | this m=>exact λp e=>ay e▸bP _
 | wr k e m ih=>exact λp e=>Nat.le_succ_of_le (ih p e)
 | mem o c e m ih=>exact key ih
 | idx o t e m ih=>cases t with
  | y j=>exact no rfl
  | _=>exact λp e=>Nat.le_succ_of_le (key ih p e)
 | _=>exact no rfl
theorem E3(o:Ok u e):(dz (ref e)).length + 1 < LF:=by
 cases r:ref e with
 | none=>exact aI rfl
 | some p=>
  have h1:p.1.s.length<=4:=by cases p.1 <;> exact bY rfl
  show (p.1.s++fH p.2++[]).length + 1 < _
  rw [cY,List.length_append,E4]
  exact bJ (gN (eX h1 (Nat.mul_le_mul_left 2 (ai (pP e p r) (Nat.le_of_lt o.2)))) 1) (aI rfl)
noncomputable def UM(h:Hp)(e:E)(k:Path)(v:aa)(l:List E)(b:Bool):Gl:=fo 0 lZ (l.map λt=>.str (dz (ref t))) [AV,enc e,.str (dot k),v] h (.bool b,h)
theorem PN(l:List E):(∀t∈l,Ok u t)->∀v,(UM h e k v l (l.any λt=>pre (dz (ref t)) k)).ok d:=by
 induction l with
 | nil=>exact λ_ v=>run []
 | cons t l ih=>
  intro o v
  have i:=ih (λt h=>o t (bB _ h)) (.str (dz (ref t)))
  have n1:=E3 (o t aF)
  show (UM h e k v (t::l) (!(dz (ref t)==[])&&cv (dz (ref t)++[46]) (dot k) ||l.any _)).ok d
  cases q:dz (ref t)==[]with
  | true=>exact run [.d (congrArg (!·) q),.l i]
  | false=>cases q2:cv (dz (ref t)++[46]) (dot k)with
   | true=>exact run [.d (congrArg (!·) q),.n n1,.b q2]
   | false=>exact run [.d (congrArg (!·) q),.n n1,.b q2,.l i]
noncomputable def LP(h:Hp)(k:Path)(e:E):Gl:=cl F.iD [AV,enc e,.str (dot k)] h (.bool (jw e k),h.up (h.n+2))
theorem qL(hu:h.get U=some (.eg u))(o:Ok u e)(ht:lC e)(hd:iN h):(LP h k e).ok (d+5):=
 run [.g (IZ hu o ht hd),.l (PN (e:=e) (k:=k) (h:=h.up (h.n+2)) (fM e) (tM o ht.1) .undef)]
theorem ir{P:Path->Prop}(hk:k∈keys)(h1:P (.s1,[]))(h2:P (.s1,[.a]))(h3:P (.s1,[.a,.b]))(h4:P (.this,[.a]))(h5:P (.s2,[.b])):P k:=by
 have one:∀{x:Path} {l:List Path},k∈x::l->P x->(k∈l->P k)->P k:=λm p q=>(List.mem_cons.mp m).elim (λe=>e▸p) q
 exact one hk h1 λm=>one m h2 λm=>one m h3 λm=>one m h4 λm=>one m h5 λm=>nomatch m
noncomputable def RC(l:List Nm):aa:=.list (l.map λc=>.str c.s)
theorem Pp(c c':Nm):(c.s==c'.s)=(c'==c):=by cases c <;> cases c' <;> rfl
theorem yz(c:Nm)(l:List Nm)(h:Hp):ck h .in (.str c.s) (RC l)=some (l.contains c):=(rK l).trans (congrArg some (by
 induction l with
 | nil=>rfl
 | cons a l ih=>exact congr (congrArg _ (Pp a c)) ih))
theorem Lw{l:List Nm}(hl:l.length < LF)(h:Hp):truth h (RC l)=some (!l.isEmpty):=(gU (d8 hl)).trans (by cases l <;> rfl)
theorem Ec(hk:k∈keys):k.2.length < LF:=ir (P:=λk=>k.2.length < LF) hk (aI rfl) (aI rfl) (aI rfl) (aI rfl) (aI rfl)
noncomputable def Jq(h:Hp)(k:Path)(x:aa)(v w:aa)(l:List E)(b:Bool):Gl:=fo 1 oa (l.map enc) [x,.str (dot k),RC k.2,v,w] h (.bool b,h)
noncomputable def pe{d:Nat}{k:Path}{b:Bool}(hk:k.2.length < LF)(q:k.2.isEmpty=b)(r:List (Fact d)):List (Fact d):=.q 9 (Lw hk):: .b (congrArg (!·) q)::r
theorem D3{x v w:aa}{l:List E}{c:Nm}{t:E}{b:Bool}(hk:k.2.length < LF)(hK:∀h,ck h .in (.int (bV t)) (.tup [.int 16,.int 17])=some true)(hm:(RD h (enc t) c).ok (d+2))(i:∀v w,(Jq h k x v w l b).ok (d+3)):(Jq h k x v w (t::l) (!k.2.isEmpty&&k.2.contains c ||b)).ok (d+3):=by
 cases q:k.2.isEmpty with
 | true=>exact run (pe hk q (pe hk q [.l (i (enc t) w)]))
 | false=>cases q2:k.2.contains c with
  | true=>exact run (pe hk q [.q 1 hK,.g hm,.s 1 1,.q 1 (yz c k.2),.d q2])
  | false=>exact run (pe hk q [.q 1 hK,.g hm,.s 1 1,.q 1 (yz c k.2),.d q2,.l (i (enc t) (.str c.s))])
theorem Hl{x v w:aa}{l:List E}{b:Bool}(hk:k.2.length < LF)(t:E)(ht:eN t=true):(∀v w,(Jq h k x v w l b).ok (d+3))->(Jq h k x v w (t::l) (nB k t ||b)).ok (d+3):=
 E.lj (P:=λt=>(∀v w,(Jq h k x v w l b).ok (d+3))->(Jq h k x v w (t::l) (nB k t ||b)).ok (d+3))
  (λs m i=>by
   cases q:k.2.isEmpty with
   | true=>exact run (pe hk q (pe hk q [.l (i (enc (.nm s m)) w)]))
   | false=>exact run (pe hk q [.l (i (enc (.nm s m)) w)]) (by kernel_rfl))
  (λo c e m i=>D3 hk (λ_=>rfl) DX i)
  (λo t e m i=>match t with
   | .y j=>by
    show (Jq h k x v w (.idx o (.y j) e m::l) (!k.2.isEmpty&&true ||b)).ok (d+3)
    cases q:k.2.isEmpty with
    | true=>exact run (pe hk q (pe hk q [.l (i (enc (.idx o (.y j) e m)) w)]))
    | false=>exact run (pe hk q [])
   | .str c j=>D3 hk (λ_=>rfl) (uf rfl) i
   | .rO c j=>D3 hk (λ_=>rfl) (uf rfl) i) t ht
theorem PB{x:aa}(hk:k.2.length < LF)(l:List E):(∀t∈l,eN t=true)->∀v w,(Jq h k x v w l (l.any (nB k))).ok (d+3):=by
 induction l with
 | nil=>exact λ_ v w=>run []
 | cons t l ih=>exact λht v w=>Hl hk t (ht t aF) (ih λt h=>ht t (bB _ h))
noncomputable abbrev Pb:ME:=.slice (.split (.v 1) (.c (.str gx))) (some (.c (.int 1))) none
noncomputable def PE(h:Hp)(k:Path)(e:E):Gl:=cl F.mC [enc e,.str (dot k)] h (.bool (sS e k),h.up (h.n+2))
noncomputable def Ji(h:Hp)(x:aa)(k:Path):Gl:=ex 14 Pb [x,.str (dot k),.undef,.undef,.undef] h (RC k.2,h)
theorem Hk{x:aa}(hk:k∈keys)(h:Hp):(Ji h x k).ok d:=ir (P:=λk=>(Ji h x k).ok d) hk (by kernel_rfl) (by kernel_rfl) (by kernel_rfl) (by kernel_rfl) (by kernel_rfl)
theorem zU(hk:k∈keys)(o:Ok u e)(ht:lC e)(hd:iN h):(PE h k e).ok (d+3):=
 run [.l (Hk (x:=enc e) hk h),.g (IY o ht hd),.l (PB (d:=d) (h:=h.up (h.n+2)) (x:=enc e) (Ec hk) (fM e) ht.2 .undef .undef)]
noncomputable def Sy(h:Hp)(H:Hid)(r:Rr):Gl:=cl F.gF [H.enc,r.enc] h (.bool (r.gK H),h)
theorem Jf{H:Hid}{r:Rr}(hr:r.ok=true):(Sy h H r).ok (d+4):=match r,hr with
 | .mem o c e n,_=>by cases H <;> cases c <;> kernel_rfl
 | .idx o (.y m) e n,_=>by cases H <;> kernel_rfl
 | .idx o (.str c m) e n,_=>by cases H <;> cases c <;> kernel_rfl
 | .idx o (.rO c m) e n,_=>by cases H <;> cases c <;> kernel_rfl
 | .Cg e m,_=>by cases H <;> kernel_rfl
 | .pat (.p4 _ _) t,_=>by cases H <;> kernel_rfl
 | .pat (.p5 _ _ _ _) t,_=>by cases H <;> kernel_rfl
 | .pat (.p6 _ _) t,_=>by cases H <;> kernel_rfl
end
section
variable{α:Type}
noncomputable def iter(b:Bool)(f:α->α)(x:α):α:=bif b then f x else x
variable(p:Int->aa->Bool)(go:Int->Bool)
noncomputable def Fo.out:Fo->List aa->List aa
 | .nil,O=>O
 | .no r,O=>r.out O
 | .nd K a fl n _ ks r,O=>iter (go K) ks.out (iter (p K a) (·++[Q.nd K a ks.enc fl n]) (r.out O))
noncomputable def Fo.nums:Fo->List Nat->List Nat
 | .nil,O=>O
 | .no r,O=>r.nums O
 | .nd K a _ n _ ks r,O=>iter (go K) ks.nums (iter (p K a) (·++[n]) (r.nums O))
noncomputable def Fo.fuel:Fo->Nat->Nat
 | .nil,n=>n
 | .no r,n=>r.fuel n
 | .nd K _ _ _ _ ks r,n=>r.fuel (iter (go K) ks.fuel n + 1)
noncomputable def Fo.hits(hit:E->Bool):Fo->Bool->Bool
 | .nil,B=>B
 | .no r,B=>r.hits hit B
 | .nd K a _ _ t ks r,B=>r.hits hit ((p K a&&hit t) ||iter (go K) (ks.hits hit) B)
noncomputable def Fo.keep:Fo->List aa->List aa
 | .nil,W=>W
 | .no r,W=>r.keep W
 | .nd K a fl n _ ks r,W=>r.keep (W++[Q.nd K a ks.enc fl n])
noncomputable def Fo.sz:Fo->Nat
 | .nil=>0
 | .no r=>r.sz + 1
 | .nd _ _ _ _ _ ks r=>ks.sz + 1 + r.sz
noncomputable def Fo.len:Fo->Nat
 | .nil=>0
 | .no r=>r.len
 | .nd _ _ _ _ _ _ r=>r.len + 1
end
theorem U8{w k r B l:Nat}(h:w + 2 * (k + 1 + r)<=B)(hl:l<=k):w + 1 + 2 * r<=B/\w + 1<=B/\w + l<=B/\w + 2 * k<=B:=
 ⟨ai (by lia) h,ai (by lia) h,ai (dB hl w) (ai (by lia) h),ai (by lia) h⟩
theorem WM{o w k r B o' l:Nat}(h:o + w + 2 * (k + 1 + r)<=B)(ho:o'<=r + o)(hl:l<=k):o + (w + 1) + 2 * r<=B/\w + 1<=B/\o'<=B/\w + l<=B/\o' + 1 + w + 2 * k<=B:=
 have q:=U8 (ai (hX _ o) (ai (by lia:o + (w + 2 * (k + 1 + r))<=_) h)) hl
 ⟨ai (by lia) h,q.2.1,ai ho (ai (by lia) h),q.2.2.1,ai (gN (gN (ee ho) w) _) (ai (by lia) h)⟩
section
variable{p:Int->aa->Bool}{go:Int->Bool}
theorem D6(F:Fo):F.len<=F.sz:=by
 induction F with
 | nil=>exact aO _
 | no r ih=>exact Nat.le_succ_of_le ih
 | nd K a fl n t ks r _ ih=>exact ai (ee ih) (by lia:r.sz + 1<=ks.sz + 1 + r.sz)
theorem jx(F:Fo):(F.keep []).length=F.len/\∀W,F.keep W=W++F.keep []:=by
 have h:∀W,F.keep W=W++F.keep []:=by
  induction F with
  | nil=>exact λW=>(cY W).symm
  | no r ih=>exact ih
  | nd K a fl n t ks r _ ih=>exact λW=>(ih _).trans ((cL ..).trans (congrArg (W++·) (ih _).symm))
 refine ⟨?_,h⟩
 clear h
 have:∀W,(F.keep W).length=F.len + W.length:=by
  induction F with
  | nil=>exact λW=>(Nat.zero_add _).symm
  | no r ih=>exact ih
  | nd K a fl n t ks r _ ih=>exact λW=>(ih _).trans ((congrArg (r.len + ·) (List.length_append (as:=W) (bs:=[nd K a ks.enc fl n]))).trans (Nat.succ_add r.len W.length).symm)
 exact this []
theorem Ma(b:Bool)(x:aa)(O:List aa):(iter b (·++[x]) O).length<=O.length + 1:=match b with
 | true=>Nat.le_of_eq (List.length_append (as:=O) (bs:=[x]))
 | false=>dJ _
theorem Am(F:Fo):F.enc.length<=F.sz:=by
 induction F with
 | nil=>exact aO _
 | no r ih=>exact ee ih
 | nd K a fl n t ks r _ ih=>exact ai (ee ih) (by lia:r.sz + 1<=ks.sz + 1 + r.sz)
theorem G5(F:Fo):∀O,(F.out p go O).length<=F.sz + O.length:=by
 induction F with
 | nil=>exact λO=>hX _ _
 | no r ih=>exact λO=>ai (ih O) (gN (dJ _) _)
 | nd K a fl n t ks r ik ih=>
  intro O
  have h1:=Ma (p K a) (nd K a ks.enc fl n) (r.out p go O)
  have h2:=ih O
  have h3:=ik (iter (p K a) (·++[nd K a ks.enc fl n]) (r.out p go O))
  show List.length (iter (go K) _ _)<=ks.sz + 1 + r.sz + O.length
  cases go K with
  | true=>exact ai h3 (ai (dB (ai h1 (ee h2)) ks.sz) (by lia))
  | false=>exact ai h1 (ai (ee h2) (by lia))
theorem Ii(go:Int->Bool)(F:Fo):∃c,c<=F.sz/\∀n,F.fuel go n=n + c:=by
 induction F with
 | nil=>exact ⟨0,aO _,λn=>rfl⟩
 | no r ih=>exact ih.imp λc h=>⟨Nat.le_succ_of_le h.1,h.2⟩
 | nd K a fl n t ks r ik ih=>
  obtain ⟨c,hc,h⟩:=ih
  obtain ⟨c',hc',h'⟩:=ik
  cases q:go K with
  | true=>exact ⟨c' + 1 + c,eX (ee hc') hc,λn=>(h _).trans (by rw [q];show ks.fuel go n + 1 + c=_;rw [h' n];lia)⟩
  | false=>exact ⟨1 + c,eX (hX _ _) hc,λn=>(h _).trans (by rw [q];exact Nat.add_assoc n 1 c)⟩
end
theorem lG(K:Int)(T:List Int)(h:Hp):ck h .in (.int K) (.tup (T.map .int))=some (T.contains K):=(show xx (.int K) (T.map .int)=some (T.contains K) by
 induction T with
 | nil=>rfl
 | cons k T ih=>show oS (some (k==K)) (λa=>oS (xx (.int K) (T.map .int)) (λb=>some (a ||b)) none) none=_;rw [ih,List.contains_cons,BEq.comm];rfl)
noncomputable def NW:List Int:=[25,22,21]
noncomputable def QN:List Int:=[18,19,16,17,34,35,15]
noncomputable def dp(K:Int)(_:aa):Bool:=NW.contains K ||QN.contains K
noncomputable def dg(K:Int):Bool:=K != 27
noncomputable abbrev Wv:ME:=.or [(.cmp .in (.attr (.v 3) az) (.tup [(.gc cG (.int 25)),(.gc dQ (.int 22)),(.gc dE (.int 21))])),(.cmp .in (.attr (.v 3) az) (.gc sZ (.tup [(.int 18),(.int 19),(.int 16),(.int 17),(.int 34),(.int 35),(.int 15)])))]
noncomputable abbrev NI(i:Nat):ME:=.cmp .fh (.v i) (.c .none)
section
variable{d n fl' m:Nat}{h:Hp}{O W:List aa}{x0 v3 x:aa}{K fl:Int}{a:aa}{ks:Fo}{r:aa×Hp}
theorem Ap(h:Hp)(O W:List aa)(x0:aa)(fl:Int)(m:Nat)(ks:Fo){b:Bool}(q:dp K a=b):(ex 13 Wv [x0,.af h.n,.af (h.n+1),nd K a ks.enc fl m,.undef] (h2 h O W) (.bool b,h2 h O W)).ok d:=by
 have f1:∀h,ck h .in (.int K) (.tup (NW.map .int))=some (NW.contains K):=lG K NW
 have f2:∀h,ck h .in (.int K) (.tup (QN.map .int))=some (QN.contains K):=lG K QN
 have q:(NW.contains K ||QN.contains K)=b:=q
 cases q1:NW.contains K with
 | true=>rw [q1]at q;cases q;exact run [.q 1 f1,.d q1]
 | false=>rw [q1]at q;exact run [.q 1 f1,.d q1,.q 1 f2,.d q]
theorem Ao(F:Fo):dy (ov (aM pg d) (.v 4) (some (NI 4)) (.v 4) [x0,.af h.n,.af (h.n+1),x,.undef]) F.enc (h2 h O W)=some (F.keep [],h2 h O W):=by
 induction F with
 | nil=>rfl
 | no r ih=>exact bL (show ov (aM pg d) (.v 4) (some (NI 4)) (.v 4) [x0,.af h.n,.af (h.n+1),x,.undef] .none (h2 h O W)=some (none,h2 h O W) by kernel_rfl) (bL ih rfl)
 | nd K a fl n t ks r _ ih=>exact bL (show ov (aM pg d) (.v 4) (some (NI 4)) (.v 4) [x0,.af h.n,.af (h.n+1),x,.undef] (nd K a ks.enc fl n) (h2 h O W)=some (some (nd K a ks.enc fl n),h2 h O W) by kernel_rfl) (bL ih (congrArg (λl=>some (l,h2 h O W)) ((jx r).2 [nd K a ks.enc fl n]).symm))
noncomputable def MO(h:Hp)(x0:aa)(r:aa×Hp)(n:Nat)(O W:List aa)(v:aa):Gl:=lw 2 rH n [x0,.af h.n,.af (h.n+1),v,.undef] (h2 h O W) r
theorem nE{n:Nat}(h:n<=1000000):n < LF:=bJ h (bY rfl)
noncomputable def W8(d:Nat)(h:Hp)(x0:aa)(r:aa×Hp)(F:Fo):Prop:=∀n O W,O.length + W.length + 2 * F.sz<=1000000->(∀v,(MO h x0 r n (F.out dp dg O) W v).ok d)->∀v,(MO h x0 r (F.fuel dg n) O (F.keep W) v).ok d
theorem QK(F:Fo):W8 d h x0 r F:=by
 induction F with
 | nil=>exact λn O W b k=>k
 | no r ih=>exact λn O W b=>ih n O W (ai (dB (Nat.mul_le_mul_left 2 (dJ _)) _) b)
 | nd K a fl m t ks R ik ih=>
  intro n O W b k
  let x:=nd K a ks.enc fl m
  let P:=R.out dp dg O
  obtain ⟨b1,b2,b3,b4,b5⟩:=WM b (G5 (p:=dp) (go:=dg) R O) (D6 ks)
  refine ih _ O (W++[x]) (List.length_append (as:=W) (bs:=[x])▸b1) λv=>?_
  have go:∀P',P'.length<=P.length + 1->(∀v,(MO h x0 r n (ks.out dp dg P') W v).ok d)->∀v,(MO h x0 r (ks.fuel dg n) P' (W++ks.keep []) v).ok d:=λP' hP k=>(jx ks).2 W▸ik n P' W (ai (gN (gN hP _) _) b5) k
  have hn:ks.enc.length < LF:=nE (ai (Am ks) (ai (hX _ _) (ai (hX _ (P.length + 1 + W.length)) (Nat.two_mul ks.sz▸b5))))
  have hk:W.length + (ks.keep []).length < LF:=(jx ks).1.symm▸nE b4
  change (MO h x0 r (iter (dg K) (ks.fuel dg) n + 1) P (W++[x]) v).ok d
  have k:∀v,(MO h x0 r n (iter (dg K) (ks.out dp dg) (iter (dp K a) (·++[x]) P)) W v).ok d:=k
  cases q1:dp K a with
  | true=>cases q2:dg K with
   | true=>
    rw [q1,q2]at k
    exact run (tk h P W x (nE b2) (.l (Ap h P W x0 fl m ks q1)::TV h P W x (nE b3) [.d q2,.p 16 (cJ (gL (h:=h) (O:=P++[x]) (W:=W))),.n hn,.m (Ao (d:=d) (h:=h) (O:=P++[x]) (W:=W) (x0:=x0) (x:=x) ks),.a 17 (yD h (P++[x]) W (ks.keep []) hk),.l (go _ (Nat.le_of_eq (List.length_append (as:=P) (bs:=[x]))) k x)]))
   | false=>
    rw [q1,q2]at k
    exact run (tk h P W x (nE b2) (.l (Ap h P W x0 fl m ks q1)::TV h P W x (nE b3) [.d q2,.l (k x)]))
  | false=>cases q2:dg K with
   | true=>
    rw [q1,q2]at k
    exact run (tk h P W x (nE b2) [.l (Ap h P W x0 fl m ks q1),.d q2,.p 16 (cJ (gL (h:=h) (O:=P) (W:=W))),.n hn,.m (Ao (d:=d) (h:=h) (O:=P) (W:=W) (x0:=x0) (x:=x) ks),.a 17 (yD h P W (ks.keep []) hk),.l (go P (dJ _) k x)])
   | false=>
    rw [q1,q2]at k
    exact run (tk h P W x (nE b2) [.l (Ap h P W x0 fl m ks q1),.d q2,.l (k x)])
theorem PS(e:E):(kf e).sz + 1<=sz e:=by
 have st:∀{x y k},x<=y->x + k<=y + k:=λh=>gN h _
 have sp:∀{s p r},(kf p).sz + 1<=sz p->(xP s p (kf p) r).sz<=sz p + 1 + r.sz:=λ{s p r} h=>match s with
  | none=>st (Nat.le_succ_of_le h)
  | some m=>st (st h)
 induction e with
 | nm=>exact aO _
 | this=>exact aO _
 | num=>exact aO _
 | idx o t e n i=>exact st (k:=1 + 1) i
 | call w o k f p q m n i1 i2 i3=>
  show (kf f).sz + 1 + ((k.fo p (kf p) q (kf q)).sz + 1 + 1) + 1<=sz f + sz p + sz q + 5
  have:(k.fo p (kf p) q (kf q)).sz<=sz p + 1 + (sz q + 1):=match k with
   | .zero=>bP _
   | .one s=>ai (sp i2) (dB (bP _) _)
   | .two s t=>ai (sp i2) (dB (sp i3) _)
  lia
 | asg k t v n i1 i2=>
  show (k.ks t (kf t)).sz + 1 + ((kf v).sz + 1 + 0) + 1<=sz t + sz v + 7
  have:(k.ks t (kf t)).sz<=(kf t).sz + 6:=match k with
   | .op _=>aJ _ 6
   | .p4 _ _=>aJ _ 3
   | .p5 _ _ _ _=>aO ((kf t).sz + 6)
   | .p6 _ _=>aJ _ 2
  lia
 | fn e m n i=>show 0 + 1 + ((kf e).sz + 1 + 0 + 1) + 1 + 1<=sz e + 4;lia
 | cls e m f r n i=>show 0 + 1 + ((kf e).sz + 1 + 0 + 1 + 1 + 0 + 1 + 0) + 1 + 1 + 1 + 1<=sz e + 8;lia
 | bin s p q n i1 i2=>show (kf p).sz + 1 + ((kf q).sz + 1) + 1<=_;exact st (eX i1 i2)
 | pick p q r n i1 i2 i3=>show (kf p).sz + 1 + ((kf q).sz + 1 + ((kf r).sz + 1)) + 1<=sz p + sz q + sz r + 1;lia
 | _=>exact st (by assumption)
theorem IX{u:List (Int×aa)}{e:E}(o:Ok u e):(tn e (kf e) .nil).sz < 100000:=bJ (PS e) o.2
theorem JU(go:Int->Bool){F:Fo}(h:F.sz < 100000)(P:Nat->Prop)(H:∀n,P (F.fuel go (n + 1))):P LF:=by
 obtain ⟨c,hc,hf⟩:=Ii go F
 have e:=H (1048575 - c)
 rw [hf,Nat.add_right_comm,Nat.sub_add_cancel (ai hc (Nat.le_of_lt (cK h (aI rfl))))]at e
 exact e
noncomputable def QB(e:E):List aa:=(tn e (kf e) .nil).out dp dg []
noncomputable def MH(e:E):List Nat:=(tn e (kf e) .nil).nums dp dg []
noncomputable def MN(h:Hp)(e:E):Gl:=cl F.rp [enc e] h (.list (QB e),h.up (h.n+2))
theorem wQ{u:List (Int×aa)}{e:E}(o:Ok u e)(hd:iN h):(MN h e).ok d:=
 have z:=IX o
 run [.l (JU dg z (λn=>(MO h (enc e) (.list (QB e),h.up (h.n+2)) n [] [enc e] .undef).ok d) λn=>QK (tn e (kf e) .nil) (n + 1) [] [] (ai (dB (Nat.mul_le_mul_left 2 (Nat.le_of_lt z)) 0) (bY rfl)) (λv=>run (UZ (QB e) hd)) .undef)]
inductive NN:List aa->List Nat->Prop
 | nil:NN [] []
 | cons {K a ks fl n O N}:NN O N->NN (nd K a ks fl n::O) (n::N)
theorem NN.app{O O':List aa}{N N':List Nat}(h:NN O N)(k:NN O' N'):NN (O++O') (N++N'):=by
 induction h with
 | nil=>exact k
 | cons _ ih=>exact ih.cons
theorem NN.one{K a ks fl n}:NN [nd K a ks fl n] [n]:=.cons .nil
theorem NN.out(p:Int->aa->Bool)(go:Int->Bool)(F:Fo):∀O N,NN O N->NN (F.out p go O) (F.nums p go N):=by
 induction F with
 | nil=>exact λ_ _ h=>h
 | no r ih=>exact ih
 | nd K a fl n t ks r ik ih=>
  intro O N h
  have h1:=ih O N h
  have h2:NN (iter (p K a) (·++[nd K a ks.enc fl n]) (r.out p go O)) (iter (p K a) (·++[n]) (r.nums p go N)):=by
   cases p K a with
   | true=>exact h1.app .one
   | false=>exact h1
  show NN (iter (go K) _ _) (iter (go K) _ _)
  cases go K with
  | true=>exact ik _ _ h2
  | false=>exact h2
theorem uS(e:E):NN (QB e) (MH e):=NN.out dp dg _ _ _ .nil
theorem ly{C:jj}{env:Env}{i:Nat}(h:Hp)(hg:∀x h,gj x=true->ev pg C (.v i) (env.set i x) h=some (x,h)){O:List aa}{N:List Nat}(H:NN O N):dy (ov C (.v i) none (.attr (.v i) bj) env) O h=some (N.map λn=>.int (n:Nat),h):=by
 induction H with
 | nil=>rfl
 | cons _ ih=>exact bL (jf rfl (bL (hg _ _ rfl) rfl)) (bL ih rfl)
end
noncomputable def hq(h:Hp)(W:List aa)(m:Nat):Hp:={G:=h.G,D:=(h.n,.list W)::h.D,n:=m}
section
variable{d n:Nat}{h:Hp}{W:List aa}{x0 x:aa}{m:Nat}{k:Path}{u:List (Int×aa)}
theorem JH(hd:iN h)(hm:h.n < m):iN (hq h W m):=λp hp=>(List.mem_cons.mp hp).elim (λe=>e▸hm) λhp=>cK (hd p hp) hm
theorem qZ:(hq h W m).get (.af h.n)=some (.list W):=bz
theorem EB{W'}:(hq h W m).put (.af h.n) (.list W')=hq h W' m:=congrArg (λD=>({G:=h.G,D:=D,n:=m}:Hp)) eE
theorem yA(hd:iN h):(hq h W m).del (.af h.n)=h.up m:=congrArg (λD=>({G:=h.G,D:=D,n:=m}:Hp)) (cC.trans (eF hd))
noncomputable def tq(h:Hp)(W:List aa)(x:aa)(m:Nat)(hl:W.length + 1 < LF)(r:List (Fact d)):List (Fact d):=.p 9 (CG (qZ (h:=h) (W:=W++[x]) (m:=m)) hl):: .a 10 ((Dy (qZ (h:=h) (W:=W++[x]) (m:=m)) hl).trans (congrArg (λh=>some (x,h)) EB))::r
noncomputable def pH(k:Path)(e:E):Bool:=lR e k ||jw e k
noncomputable abbrev VH:ME:=.or [(.cmp .in (.attr (.v 4) az) (.tup [(.gc cG (.int 25)),(.gc dQ (.int 22))])),(.and [(.cmp .eq (.attr (.v 4) az) (.gc dE (.int 21))),(.cmp .eq (.attr (.v 4) fE) (.c (.str gb)))])]
noncomputable abbrev VG:ME:=.and [(.cmp .ne (.attr (.v 4) az) (.gc gh (.int 27))),(.cmp .ne (.attr (.v 4) az) (.gc gH (.int 61)))]
noncomputable def sg(K:Int):Bool:=K != 27&&K != 61
noncomputable def Ut(x v2 v3 y:aa)(b:Bool)(h:Hp):Gl:=ex 13 VH [AV,x,v2,v3,y,.undef] h (.bool b,h)
noncomputable def VI(x v2 v3 y:aa)(b:Bool)(h:Hp):Gl:=ex 13 VG [AV,x,v2,v3,y,.undef] h (.bool b,h)
noncomputable def sT(y:aa)(b:Bool):Prop:=∀x v2 v3 h d,(Ut x v2 v3 y b h).ok d
inductive SF(u:List (Int×aa)):Fo->List E->List E->Prop
 | nil {L}:SF u .nil L L
 | no {r L L'}:SF u r L L'->SF u (.no r) L L'
 | go {K a fl n t ks r L L' L''} (h:sT (nd K a ks.enc fl n) false) (g:sg K=true):SF u r L L'->SF u ks L' L''->SF u (.nd K a fl n t ks r) L L''
 | stop {K a fl n t ks r L L'} (h:sT (nd K a ks.enc fl n) false) (g:sg K=false):SF u r L L'->SF u (.nd K a fl n t ks r) L L'
 | set {e r L L' L''} (h:sT (enc e) true) (g:sg (bV e)=true) (o:Ok u e) (t:lC e):SF u r L L'->SF u (kf e) (e::L') L''->SF u (tn e (kf e) r) L L''
noncomputable def Res(h:Hp)(x:Option (aa×Hp))(b:Bool):Prop:=∃m,h.n < m/\x=some (.bool b,h.up m)
noncomputable def So(d:Nat)(h:Hp)(k:Path)(x0:aa)(n:Nat)(W:List aa)(m:Nat)(v:aa):Option (aa×Hp):=lp d iM 1 n [AV,x0,.str (dot k),.af h.n,v,.undef] (hq h W m)
noncomputable def FX(h:Hp)(k:Path)(x0:aa)(n:Nat)(W:List aa)(m:Nat)(v:aa)(r:aa×Hp):Gl:=lw 1 iM n [AV,x0,.str (dot k),.af h.n,v,.undef] (hq h W m) r
noncomputable def Go(d:Nat)(h:Hp)(k:Path)(x0:aa)(n:Nat)(W:List aa)(B:Bool):Prop:=∀v m,h.n < m->Res h (So d h k x0 n W m v) B
noncomputable def Cq(d:Nat)(h:Hp)(k:Path)(x0:aa)(F:Fo)(b:Bool):Prop:=∀n W B,W.length + 2 * F.sz<=1000000->Go d h k x0 n W B->Go d h k x0 (F.fuel sg n) (F.keep W) (b ||B)
theorem GK{v:aa}(F:Fo):dy (ov (aM pg d) (.v 5) (some (NI 5)) (.v 5) [AV,x0,v,.af h.n,x,.undef]) F.enc (hq h W m)=some (F.keep [],hq h W m):=by
 induction F with
 | nil=>rfl
 | no r ih=>exact bL (show ov (aM pg d) (.v 5) (some (NI 5)) (.v 5) [AV,x0,v,.af h.n,x,.undef] .none (hq h W m)=some (none,hq h W m) by kernel_rfl) (bL ih rfl)
 | nd K a fl n t ks r _ ih=>exact bL (show ov (aM pg d) (.v 5) (some (NI 5)) (.v 5) [AV,x0,v,.af h.n,x,.undef] (nd K a ks.enc fl n) (hq h W m)=some (some (nd K a ks.enc fl n),hq h W m) by kernel_rfl) (bL ih (congrArg (λl=>some (l,hq h W m)) ((jx r).2 [nd K a ks.enc fl n]).symm))
theorem Dj{K:Int}{a:aa}{ks:List aa}{fl:Int}{v2 v3:aa}{b:Bool}(q:sg K=b):(VI x0 v2 v3 (nd K a ks fl m) b h).ok d:=by
 unfold sg at q
 cases q1:K != 27 with
 | true=>rw [q1]at q;exact run [.d q1,.d q]
 | false=>rw [q1]at q;cases q;exact run [.d q1]
noncomputable def UY(h:Hp)(W:List aa)(m:Nat)(x0 v x:aa)(ks:Fo)(hn:ks.enc.length < LF)(hk:W.length + (ks.keep []).length < LF)(r:List (Fact d)):List (Fact d):=
 .p 16 (cJ (qZ (h:=h) (W:=W) (m:=m))):: .n hn:: .m (GK (d:=d) (h:=h) (W:=W) (m:=m) (x0:=x0) (x:=x) (v:=v) ks):: .a 17 ((E0 (ys:=ks.keep []) (qZ (h:=h) (W:=W) (m:=m)) hk).trans (congrArg (λh=>some (aa.none,h)) EB))::r
section
variable{K fl:Int}{a:aa}{y:Nat}{t:E}{ks r:Fo}{b br B:Bool}
theorem CS(R:Cq d h k x0 r br)(st:∀n W B,W.length + 1<=1000000->W.length + ks.len<=1000000->W.length + 2 * ks.sz<=1000000->Go d h k x0 n W B->Go d h k x0 (iter (sg K) (ks.fuel sg) n + 1) (W++[nd K a ks.enc fl y]) (b ||B)):Cq d h k x0 (.nd K a fl y t ks r) (br ||b):=λn W B bd g=>
 have q:=U8 bd (D6 ks)
 Bool.or_assoc br b B▸R _ _ _ ((List.length_append (as:=W) (bs:=[nd K a ks.enc fl y])).symm▸q.1) (st n W B q.2.1 q.2.2.1 q.2.2.2 g)
theorem zx{x:aa}{v:aa}{m:Nat}(R:Cq d h k x0 ks b)(h3:W.length + 2 * ks.sz<=1000000)(g:Go d h k x0 n W B)(hm:h.n < m):Res h (So d h k x0 (ks.fuel sg n) (W++ks.keep []) m x) (b ||B):=(jx ks).2 W▸R n W B h3 g x m hm
theorem JJ(h3:W.length + 2 * ks.sz<=1000000):ks.enc.length < LF:=nE (ai (Am ks) (ai (hX _ _) (ai (hX _ W.length) (Nat.two_mul ks.sz▸h3))))
theorem OD(h1:sT (nd K a ks.enc fl y) false)(g:sg K=true)(Rk:Cq d h k x0 ks b)(R:Cq d h k x0 r br):Cq d h k x0 (.nd K a fl y t ks r) (br ||b):=CS R λn W B b1 b2 b3 G v m hm=>by
 obtain ⟨m',hm',e⟩:=zx (x:=nd K a ks.enc fl y) (v:=v) Rk b3 G hm
 rw [g]
 exact ⟨m',hm',run (G:=FX h k x0 (ks.fuel sg n + 1) (W++[nd K a ks.enc fl y]) m v (.bool (b ||B),h.up m')) (tq h W (nd K a ks.enc fl y) m (nE b1) (.l (h1 x0 (.str (dot k)) (.af h.n) (hq h W m) d):: .l (Dj (x0:=x0) (a:=a) (ks:=ks.enc) (fl:=fl) (m:=y) (v2:=.str (dot k)) (v3:=.af h.n) (h:=hq h W m) g)::UY h W m x0 (.str (dot k)) (nd K a ks.enc fl y) ks (JJ b3) ((jx ks).1.symm▸nE b2) [.l (G:=FX h k x0 (ks.fuel sg n) (W++ks.keep []) m (nd K a ks.enc fl y) (.bool (b ||B),h.up m')) e]))⟩
theorem GC(h1:sT (nd K a ks.enc fl y) false)(g:sg K=false)(R:Cq d h k x0 r br):Cq d h k x0 (.nd K a fl y t ks r) (br ||false):=CS R λn W B b1 b2 b3 G v m hm=>by
 obtain ⟨m',hm',e⟩:=G (nd K a ks.enc fl y) m hm
 rw [g]
 exact ⟨m',hm',run (G:=FX h k x0 (n + 1) (W++[nd K a ks.enc fl y]) m v (.bool B,h.up m')) (tq h W (nd K a ks.enc fl y) m (nE b1) [.l (h1 x0 (.str (dot k)) (.af h.n) (hq h W m) d),.l (Dj (x0:=x0) (a:=a) (ks:=ks.enc) (fl:=fl) (m:=y) (v2:=.str (dot k)) (v3:=.af h.n) (h:=hq h W m) g),.l (G:=FX h k x0 n W m (nd K a ks.enc fl y) (.bool B,h.up m')) e])⟩
theorem Kw(hu:h.get U=some (.eg u))(hd:iN h){e:E}(h1:sT (enc e) true)(g:sg (bV e)=true)(o:Ok u e)(t:lC e)(Rk:Cq (d+6) h k x0 (kf e) b)(R:Cq (d+6) h k x0 r br):Cq (d+6) h k x0 (tn e (kf e) r) (br ||(pH k e ||b)):=CS R λn W B b1 b2 b3 G v m hm=>by
 have w:=t8 (d:=d) (k:=k) (h:=hq h W m) hu o t (JH hd hm)
 have w2:=qL (d:=d) (k:=k) (h:=hq h W (m+2)) hu o t (JH hd (bU 2 hm))
 rw [g]
 let T:=λfs=>tq (d:=d+6) h W (enc e) m (nE b1) (.l (h1 x0 (.str (dot k)) (.af h.n) (hq h W m) (d+6)):: .g w::fs)
 unfold pH
 cases q:lR e k with
 | true=>exact ⟨m + 2,bU 2 hm,run (G:=FX h k x0 ((kf e).fuel sg n + 1) (W++[enc e]) m v (.bool true,h.up (m+2))) (T [.b q,.b q,.x (yA (W:=W) (m:=m+2) hd)])⟩
 | false=>cases q2:jw e k with
  | true=>exact ⟨m + 4,bU 4 hm,run (G:=FX h k x0 ((kf e).fuel sg n + 1) (W++[enc e]) m v (.bool true,h.up (m+4))) (T [.b q,.g w2,.b q2,.x (yA (W:=W) (m:=m+4) hd)])⟩
  | false=>
   obtain ⟨m',hm',e'⟩:=zx (x:=enc e) (v:=v) Rk b3 G (bU 4 hm)
   exact ⟨m',hm',run (G:=FX h k x0 ((kf e).fuel sg n + 1) (W++[enc e]) m v (.bool (b ||B),h.up m')) (T (.b q:: .g w2:: .b q2:: .l (Dj (x0:=x0) (a:=aV e) (ks:=(kf e).enc) (fl:=Mw e) (m:=bW e) (v2:=.str (dot k)) (v3:=.af h.n) (h:=hq h W (m+4)) g)::UY h W (m+4) x0 (.str (dot k)) (enc e) (kf e) (JJ b3) ((jx (kf e)).1.symm▸nE b2) [.l (G:=FX h k x0 ((kf e).fuel sg n) (W++(kf e).keep []) (m+4) (enc e) (.bool (b ||B),h.up m')) e']))⟩
end
theorem OC(hu:h.get U=some (.eg u))(hd:iN h){F:Fo}{L L':List E}(S:SF u F L L'):∃b,L'.any (pH k)=(b ||L.any (pH k))/\Cq (d+6) h k x0 F b:=by
 induction S with
 | nil=>exact ⟨false,rfl,λn W B _ g=>g⟩
 | no _ ih=>exact ih.imp λb q=>⟨q.1,λn W B bd=>q.2 n W B (ai (dB (Nat.mul_le_mul_left 2 (dJ _)) _) bd)⟩
 | go h1 g _ _ i1 i2=>
  obtain ⟨b1,e1,r1⟩:=i1;obtain ⟨b2,e2,r2⟩:=i2
  exact ⟨b1 ||b2,by rw [e2,e1,<-Bool.or_assoc,Bool.or_comm b2],OD h1 g r2 r1⟩
 | stop h1 g _ i1=>
  obtain ⟨b1,e1,r1⟩:=i1
  exact ⟨b1 ||false,by rw [e1,Bool.or_false],GC h1 g r1⟩
 | @set e r L L' L'' h1 g o t _ _ i1 i2=>
  obtain ⟨b1,e1,r1⟩:=i1;obtain ⟨b2,e2,r2⟩:=i2
  exact ⟨b1 ||(pH k e ||b2),by rw [e2,List.any_cons,e1];cases b1 <;> cases b2 <;> cases pH k e <;> rfl,Kw hu hd h1 g o t r2 r1⟩
theorem fu{K fl:Int}{a:aa}{ks:List aa}{y:Nat}(h1:[25,22].contains K=false)(h2:(K==21)=false):sT (nd K a ks fl y) false:=λx v2 v3 h d=>
 run (G:=Ut x v2 v3 (nd K a ks fl y) false h) [.q 1 (lG K [25,22]),.d h1,.d h2]
noncomputable def Vf(u:List (Int×aa))(e:E):Prop:=(∀s∈aP e,Ok u s/\lC s)->∀{r L L'},SF u r L L'->SF u (tn e (kf e) r) L (aP e++L')
theorem Kx(e:E):Vf u e:=by
 have l:∀{a b:List E} {s},s∈a->s∈a++b:=cu _
 have r:∀{a b:List E} {s},s∈b->s∈a++b:=c6 _
 have sf:∀{s p r L L'},Vf u p->(∀s∈aP p,Ok u s/\lC s)->SF u r L L'->SF u (xP s p (kf p) r) L (aP p++L'):=λ{s p r L L'} i H R=>match s with
  | none=>i H R
  | some m=>.go (fu rfl rfl) rfl R (i H .nil)
 have bf:∀{s t fl b r L L' L''},SF u r L L'->SF u (tn t (kf t) (.no .nil)) L' L''->SF u (wZ s t (kf t) fl b r) L L'':=λR B=>.go (fu rfl rfl) rfl R B
 induction e with
 | nm=>exact λH _ _ _ R=>.go (fu rfl rfl) rfl R .nil
 | this=>exact λH _ _ _ R=>.go (fu rfl rfl) rfl R .nil
 | num=>exact λH _ _ _ R=>.go (fu rfl rfl) rfl R .nil
 | wr k e m i=>exact λH _ _ _ R=>.go (fu (by cases k <;> rfl) (by cases k <;> rfl)) (by cases k <;> rfl) R (i H .nil)
 | mem o c e m i=>exact λH _ _ _ R=>.go (fu rfl rfl) rfl R (i H .nil)
 | idx o t e m i=>exact λH _ _ _ R=>.go (fu rfl rfl) rfl R (i H (.go (fu (by cases t <;> rfl) (by cases t <;> rfl)) (by cases t <;> rfl) .nil .nil))
 | call w o k f p q m n i1 i2 i3=>
  intro H r' L L' R
  show SF u _ L ((aP f++_)++L')
  rw [cL]
  refine .go (fu (by cases w <;> rfl) (by cases w <;> rfl)) (by cases w <;> rfl) R (i1 (λs h=>H s (l h)) (.go (fu rfl rfl) rfl (.no .nil) ?_))
  cases k with
  | zero=>exact .nil
  | one s=>exact sf i2 (λs h=>H s (r h)) .nil
  | two s t=>exact (cL ..).symm▸sf i2 (λs h=>H s (r (l h))) (sf i3 (λs h=>H s (r (r h))) .nil)
 | asg k t v n i1 i2=>
  intro H r' L L' R
  have me:=H (.asg k t v n) (r (r aF))
  show SF u _ L ((aP t++(aP v++[_]))++L')
  rw [cL,cL]
  have V:SF u (tn v (kf v) .nil) (.asg k t v n::L') (aP v++(.asg k t v n::L')):=i2 (λs h=>H s (r (l h))) .nil
  have t1:∀{r L L'},SF u r L L'->SF u (tn t (kf t) r) L (aP t++L'):=i1 λs h=>H s (l h)
  refine .set (λ_ _ _ _ _=>by kernel_rfl) rfl me.1 me.2 R ?_
  cases k with
  | op o=>exact t1 V
  | p4 b p=>exact .go (fu rfl rfl) rfl V (bf .nil (t1 (.no .nil)))
  | p5 b x c p=>exact .go (fu rfl rfl) rfl V (bf (bf (t:=.nm .x x) .nil (.go (fu rfl rfl) rfl (.no .nil) .nil)) (t1 (.no .nil)))
  | p6 b p=>exact .go (fu rfl rfl) rfl V (.no (bf .nil (t1 (.no .nil))))
 | un s e n i=>cases s with
  | del=>
   intro H r' L L' R
   have me:=H (.un .del e n) (r aF)
   show SF u _ L ((aP e++[_])++L')
   rw [cL]
   exact .set (λ_ _ _ _ _=>by kernel_rfl) rfl me.1 me.2 R (i (λs h=>H s (l h)) .nil)
  | _=>exact λH _ _ _ R=>.go (λ_ _ _ _ _=>by kernel_rfl) rfl R (i H .nil)
 | upd b t n i=>
  intro H r' L L' R
  have me:=H (.upd b t n) (r aF)
  show SF u _ L ((aP t++[_])++L')
  rw [cL]
  exact .set (λ_ _ _ _ _=>by kernel_rfl) rfl me.1 me.2 R (i (λs h=>H s (l h)) .nil)
 | fn e m n _=>exact λH _ _ _ R=>.stop (fu rfl rfl) rfl R
 | cls e m f r n _=>exact λH _ _ _ R=>.stop (fu rfl rfl) rfl R
 | bin s p q n i1 i2=>
  intro H r' L L' R
  show SF u _ L ((aP p++aP q)++L')
  rw [cL]
  exact .go (fu (by cases s <;> rfl) (by cases s <;> rfl)) (by cases s <;> rfl) R (i1 (λs h=>H s (l h)) (i2 (λs h=>H s (r h)) .nil))
 | pick p q s n i1 i2 i3=>
  intro H r' L L' R
  show SF u _ L ((aP p++(aP q++aP s))++L')
  rw [cL,cL]
  exact .go (fu rfl rfl) rfl R (i1 (λs h=>H s (l h)) (i2 (λs h=>H s (r (l h))) (i3 (λs h=>H s (r (r h))) .nil)))
noncomputable def OQ(h:Hp)(k:Path)(e:E)(m:Nat):Gl:=cl F.pd [AV,enc e,.str (dot k)] h (.bool ((aP e).any (pH k)),h.up m)
theorem GL{e:E}(hu:h.get U=some (.eg u))(o:Ok u e)(hd:iN h)(ho:∀s∈aP e,Ok u s/\lC s):∃m,h.n < m/\(OQ h k e m).ok (d+6):=by
 obtain ⟨b,e1,R⟩:=OC (d:=d) (k:=k) (x0:=enc e) hu hd (Kx e ho (.nil (L:=[])))
 rw [cY,List.any_nil,Bool.or_false]at e1
 have z:=IX o
 obtain ⟨m,hm,e2⟩:=JU sg z (λn=>Res h (So (d+6) h k (enc e) n [enc e] (h.n+1) .undef) (b ||false)) λn=>
  R (n + 1) [] false (ai (dB (Nat.mul_le_mul_left 2 (Nat.le_of_lt z)) 0) (bY rfl)) (λv m hm=>⟨m,hm,run (G:=FX h k (enc e) (n + 1) [] m v (.bool false,h.up m)) [.p 9 (xE (qZ (h:=h) (W:=[]) (m:=m))),.x (yA (W:=[]) (m:=m) hd)]⟩) .undef (h.n + 1) (cZ _)
 rw [Bool.or_false,<-e1]at e2
 exact ⟨m,hm,run [.l (G:=FX h k (enc e) LF [enc e] (h.n+1) .undef (.bool ((aP e).any (pH k)),h.up m)) e2]⟩
end
theorem E.Jn{P:E->Prop}(nm:∀s m,P (.nm s m))(o:∀e,(bV e==8)=false->RF e=false->P e)(e:E):P e:=by
 cases e with
 | nm s m=>exact nm s m
 | wr k=>exact o _ (by cases k <;> rfl) rfl
 | call w=>exact o _ (by cases w <;> rfl) rfl
 | bin s=>exact o _ (by cases s <;> rfl) rfl
 | _=>exact o _ rfl rfl
theorem E.xA{P:E->Prop}(wr:∀k e m,P e->P (.wr k e m))(o:∀e,(bV e==33)=false->n8 e=e->jc e=e->P e)(e:E):P e:=by
 induction e with
 | wr k e m i=>exact wr k e m i
 | call w=>exact o _ (by cases w <;> rfl) rfl rfl
 | bin s=>exact o _ (by cases s <;> rfl) rfl rfl
 | _=>exact o _ rfl rfl rfl
section
variable{d n m j:Nat}{h:Hp}{u:List (Int×aa)}{k:Path}{e f p q:E}{w v o:Bool}{a:Ak}
noncomputable def TN(h:Hp)(e:E)(n:Nat):Gl:=lo 0 Fw (n + pl e) [enc e] h (enc (n8 e),h)
theorem IG(e:E):∀n,(TN h e n).ok d:=
 E.xA (P:=λe=>∀n,(TN h e n).ok d) (λk e m i n=>match k with
  | .paren=>run [.l (i n)]
  | .eh=>run []
  | .chain=>run []) (λe q r _ n=>by unfold TN;rw [r];exact run [.d q]) e
noncomputable def J6(h:Hp)(e:E):Gl:=cl F.bare [enc e] h (enc (n8 e),h)
theorem IE(h:Hp)(o:Ok u e):(J6 h e).ok d:=run [.l (ph o (IG (h:=h) e))]
theorem IF(e:E):∀x∈ny (n8 e),x∈ny e:=
 E.xA (P:=λe=>∀x∈ny (n8 e),x∈ny e) (λk e m i=>match k with
  | .paren=>i
  | .eh=>λ_ h=>h
  | .chain=>λ_ h=>h) (λe _ r _=>r.symm▸λ_ h=>h) e
noncomputable def U1(h:Hp)(w o:Bool)(a:Ak)(f p q:E)(m j:Nat)(b:Bool):Gl:=cl F.o5 [AV,enc (.call w o a f p q m j)] h (.bool b,h)
theorem J0(hu:h.get U=some (.eg u))(hf:Ok u f):(U1 h w o a f p q m j (!glob f)).ok (d+1):=by
 have b:=IE (d:=d) h hf
 have n0:=λx hx=>hf.1 x (IF f x hx)
 unfold glob
 unfold J6 at b
 revert b n0
 generalize n8 f=g
 exact E.Jn (P:=λg=>(cl F.bare [enc f] h (enc g,h)).ok d->(∀x∈ny g,cU u (x.1:Int)=x.2)->(U1 h w o a f p q m j (!RF g)).ok (d+1))
  (λs i b n0=>by cases w <;> cases s <;> exact run [.g b,.p 16 (z8 hu),.w 3 (Ms hu (.int 0) (n0 _ aF))])
  (λg q r b _=>by rw [r];cases w <;> exact run [.s 110 1,.g b,.d (congrArg (!·) q)]) g
theorem V9(hu:h.get U=some (.eg u))(m:Int):ck h .nr (.int m) U=some (!(cU u m).isSome):=by
 have e1:om h U=none:=congrArg (λo=>oL o some none) hu
 have e2:RG h (.int m) U=some (cU u m).isSome:=(congrArg (λo=>oS o (xx (.int m)) (ie (bH h U) (λkvs=>none) (oF (bH h U) (λkvs=>some (cU kvs m).isSome) none))) e1).trans (congrArg (λo=>ie o (λkvs=>none) (oF o (λkvs=>some (cU kvs m).isSome) none)) (hu:bH h U=_))
 exact congrArg vW e2
noncomputable def UQ(h:Hp)(w x:aa)(e:E)(n:Nat):Gl:=lo 1 gy (n + pl e) [w,x,enc e] h (.bool (glob e),h)
noncomputable def T8(d:Nat)(h:Hp)(u:List (Int×aa))(w x:aa)(e:E):Prop:=UO u e->∀n,(UQ h w x e n).ok d
theorem Qc{w x:aa}(hu:h.get U=some (.eg u))(hw:aY h w (.str cc)=some U)(hd:gj w=true)(e:E):T8 d h u w x e:=by
 have st:∀g,(bV g==33)=false->n8 g=g->T8 d h u w x g:=λg q r o n=>by
  unfold UQ glob;rw [r]
  exact E.Jn (P:=λg=>(bV g==33)=false->UO u g->(lo 1 gy (n + pl g) [w,x,enc g] h (.bool (RF g),h)).ok d)
   (λs i q o=>by
    have c:=V9 hu (i:Int)
    rw [show cU u (i:Int)=s.Ci from o _ aF]at c
    cases s <;> exact run [.s 105 3,.u hd,.w 0 hw,.p 1 c])
   (λg r s q _=>by rw [s];exact run [.d q,.d r]) g q o
 exact E.xA (P:=T8 d h u w x) (λk e m i=>match k with
  | .paren=>λo n=>run [.l (i o n)]
  | .eh=>st _ rfl rfl
  | .chain=>st _ rfl rfl) (λe q r _=>st e q r) e
noncomputable def P8(h:Hp)(w:aa)(v o:Bool)(a:Ak)(f p q:E)(m j:Nat):Gl:=cl F.iI [w,enc (.call v o a f p q m j)] h (.bool (glob f),h)
theorem JG{w:aa}(hu:h.get U=some (.eg u))(hw:aY h w (.str cc)=some U)(hd:gj w=true)(hf:Ok u f):(P8 h w v o a f p q m j).ok d:=run [.l (ph hf (Qc (x:=enc (.call v o a f p q m j)) hu hw hd f hf.1))]
theorem Cj(e:E):(bV e==15)=false:=by
 cases e with
 | wr k=>cases k <;> rfl
 | call w=>cases w <;> rfl
 | bin s=>cases s <;> rfl
 | _=>rfl
noncomputable def SA(h:Hp)(w o:Bool)(a:Ak)(f p q:E)(m j:Nat)(i:Int)(r:Option E):Gl:=cl F.gG [enc (.call w o a f p q m j),.int i] h (oV r,h)
theorem dZ{P:Nat->Prop}{n:Nat}(h:∀i,i < n->P i)(k:P n)(i:Nat)(hi:i < n + 1):P i:=(Nat.lt_succ_iff_lt_or_eq.mp hi).elim (h i) λe=>e▸k
theorem yi{P:Nat->Prop}(i:Nat)(h:i < 0):P i:=absurd h (Nat.not_lt_zero i)
theorem oM{P:Nat->Prop}(h0:P 0)(h1:P 1)(h2:P 2)(i:Nat)(hi:i<=2):P i:=dZ (dZ (dZ yi h0) h1) h2 i (Nat.lt_succ_of_le hi)
theorem O8(i:Nat)(hi:i<=(a.lst p q).length):(SA h w o a f p q m j i (gE (a.lst p q) i)).ok (d+1):=by
 have one:∀{P:Nat->Prop},P 0->P 1->∀i,i<=1->P i:=λ{P} h0 h1 i hi=>oM (P:=λi=>i<=1->P i) (λ_=>h0) (λ_=>h1) (λh=>absurd h (Nat.not_succ_le_self 1)) i (Nat.le_succ_of_le hi) hi
 revert i
 cases a with
 | zero=>exact λi hi=>Nat.le_zero.mp hi▸run []
 | one s=>cases s with
  | none=>exact one (run [.s 110 1,.d (Cj p)]) (run [.s 110 1,.d (Cj p)])
  | some s=>exact one (run []) (run [])
 | two s t=>cases s with
  | none=>cases t with
   | none=>exact oM (run [.s 110 1,.d (Cj p)]) (run [.s 110 1,.d (Cj p),.d (Cj q)]) (run [.s 110 1,.d (Cj p),.d (Cj q)])
   | some t=>exact oM (run [.s 110 1,.d (Cj p)]) (run [.s 110 1,.d (Cj p)]) (run [.s 110 1,.d (Cj p)])
  | some s=>cases t <;> exact oM (run []) (run []) (run [])
theorem E.OZ{P:E->Prop}(wr:∀k e m,P e->P (.wr k e m))(mem:∀o c e m,P (.mem o c e m))(idx:∀o t e m,P (.idx o t e m))(o:∀e,[16,17].contains (bV e)=false->obj e=none->jc e=e->P e)(e:E):P e:=by
 induction e with
 | wr k e m i=>exact wr k e m i
 | mem=>exact mem _ _ _ _
 | idx=>exact idx _ _ _ _
 | call w=>exact o _ (by cases w <;> rfl) rfl rfl
 | bin s=>exact o _ (by cases s <;> rfl) rfl rfl
 | _=>exact o _ rfl rfl rfl
theorem sN(hf:Ok u f):(SA h w o a f p q m j (-1) (obj f)).ok (d+1):=
 E.OZ (P:=λe=>(uG h (enc f) e).ok d->(SA h w o a f p q m j (-1) (obj e)).ok (d+1)) (λk e m i=>i) (λ_ _ _ _ i=>run [.g i]) (λ_ _ _ _ i=>run [.g i])
  (λe c n r i=>by unfold uG at i;rw [n];rw [r]at i;exact run [.g i,.q 1 (lG (bV e) [16,17]),.d c]) f (kL h hf)
noncomputable def Fb(h:Hp)(k:Path)(x:aa)(m:Nat):Gl:=cl F.kS [AV,nd 15 aQ [x] 0 m,.str (dot k)] h (.bool false,h)
theorem uV(hk:k∈keys){x:aa}{m:Nat}:(Fb h k x m).ok (d+6):=ir (P:=λk=>(Fb h k x m).ok (d+6)) hk (by kernel_rfl) (by kernel_rfl) (by kernel_rfl) (by kernel_rfl) (by kernel_rfl)
noncomputable def h1(h:Hp)(W:List aa):Hp:={h with D:=(h.n,.list W)::h.D,n:=h.n + 1}
theorem rb{W}:(h1 h W).get (.af h.n)=some (.list W):=bz
theorem EH{W x}(hl:W.length < LF):cz (.af h.n) x (h1 h W)=some (.none,h1 h (W++[x])):=(gA rb hl).trans (congrArg (λD=>some (aa.none,({G:=h.G,D:=D,n:=h.n + 1}:Hp))) eE)
theorem EG{W ks}(hd:iN h):yH (.af h.n) ks (h1 h W)=some (.list W,h.up (h.n + 1)):=(kQ rb).trans (congrArg (λD=>some (aa.list W,({G:=h.G,D:=D,n:=h.n + 1}:Hp))) (cC.trans (eF hd)))
theorem wV{α:Type}(f:α->Bool)(l:List α):boolsOf (l.map λx=>.bool (f x))=some (l.map f):=by
 induction l with
 | nil=>rfl
 | cons x l ih=>exact congrArg (λo=>oS o (λys=>some (f x::ys)) none) ih
theorem any_bools{α:Type}(f:α->Bool)(l:List α)(h:Hp):tw h .any (.list (l.map λx=>.bool (f x)))=some (.bool (l.any f)):=(congrArg (λo=>oS o (λl:List Bool=>some (aa.bool (l.any id))) none) (wV f l)).trans (congrArg (λb=>some (aa.bool b)) List.any_map)
theorem all_bools{α:Type}(f:α->Bool)(l:List α)(h:Hp):tw h .all (.list (l.map λx=>.bool (f x)))=some (.bool (l.all f)):=(congrArg (λo=>oS o (λl:List Bool=>some (aa.bool (l.all id))) none) (wV f l)).trans (congrArg (λb=>some (aa.bool b)) List.all_map)
theorem GG(x:Option Nat×E):gj (CX x)=true:=match x with
 | (none,_)=>rfl
 | (some _,_)=>rfl
theorem DJ(o:Ok u f):∀g,obj f=some g->Ok u g:=by
 revert o
 show (λf=>Ok u f->∀g,obj f=some g->Ok u g) f
 induction f with
 | wr k e m i=>exact λo=>i o.wr
 | mem=>exact λo g e=>ay e▸o.mem
 | idx=>exact λo g e=>ay e▸o.idx
 | _=>exact λo g e=>nomatch e
theorem args_eq(a:Ak)(p q:E):a.args p q=(a.lst p q).map CX:=by
 have s1:∀(s:Option Nat) (p:E) (r:Fo),(xP s p (kf p) r).enc=CX (s,p)::r.enc:=λs p r=>match s with
  | none=>rfl
  | some _=>rfl
 cases a with
 | zero=>rfl
 | one s=>exact s1 s p _
 | two s t=>exact (s1 s p _).trans (congrArg _ (s1 t q _))
theorem uh(a:Ak)(p q:E):(a.lst p q).length<=2:=by cases a <;> exact bY rfl
noncomputable abbrev MX(k:Path)(o:Bool)(a:Ak)(f p q:E)(m j:Nat)(x y z:aa):Env:=[AV,enc (.call false o a f p q m j),.str (dot k),x,y,z]
noncomputable abbrev TC:ME:=.and [(.cmp .fh (.v 5) (.c .none)),(.call F.kS [(.v 0),(.v 5),(.v 2)])]
noncomputable def TF(h:Hp)(k:Path)(o:Bool)(a:Ak)(f p q:E)(m j:Nat):Gl:=cl F.iL [AV,enc (.call false o a f p q m j),.str (dot k)] h (.bool (lz (a.lst p q) f k),h.up (h.n+1))
theorem Q0(hu:h.get U=some (.eg u))(hk:k∈keys)(hd:iN h)(ho:∀x∈a.lst p q,Ok u x.2)(hf:Ok u f):(TF h k o a f p q m j).ok (d+7):=by
 let L:List (aa×Bool):=(a.lst p q).map (λx=>(CX x, !x.1.isSome&&tells x.2 k))++[(oV (obj f),(obj f).elim false (tells · k))]
 let W:=(a.lst p q).map CX
 have hl:W.length < LF:=d8 (nA (uh a p q) rfl)
 have hL:W++[oV (obj f)]=L.map (·.1):=by rw [List.map_append,List.map_map];rfl
 have hR:lz (a.lst p q) f k=L.any (·.2):=by rw [List.any_append,List.any_map,List.any_cons,List.any_nil,Bool.or_false];rfl
 have hn:(L.map (·.1)).length < LF:=hL▸(List.length_append (as:=W) (bs:=[oV (obj f)])).symm▸bJ (ee ((List.length_map CX).symm▸uh a p q)) (aI rfl)
 let v:=L.map (·.1)
 let H:=h.up (h.n+1)
 have xm:∀x∈L,(ex 0 TC (MX k o a f p q m j (.list v) .undef x.1) H (.bool x.2,H)).ok (d+7):=by
  have tel:∀g,Ok u g->(ex 0 TC (MX k o a f p q m j (.list v) .undef (enc g)) H (.bool (tells g k),H)).ok (d+7):=λg og=>run [.g (pB (k:=k) (h:=H) (xC.trans hu) og)]
  refine λx hx=>(List.mem_append.mp hx).elim (λhx=>?_) λhx=>(List.mem_singleton.mp hx).symm▸ ?_
  ·obtain ⟨y,hy,e⟩:=List.mem_map.mp hx
   refine e▸(match y,hy with
    | (none,g),hy=>tel g (ho _ hy)
    | (some i,g),hy=>run [.g (uV (h:=H) (x:=enc g) (m:=i) hk)])
  ·cases e:obj f with
   | none=>exact run []
   | some g=>exact tel g (DJ hf g e)
 unfold TF;rw [hR]
 have c0:dy (ov (aM pg (d+7)) (.v 4) none (.v 4) (MX k o a f p q m j .undef .undef .undef)) (a.args p q) h=some (W,h):=by
  rw [args_eq];exact comp_map h (a.lst p q) λx _=>jf (env':=MX k o a f p q m j .undef (CX x) .undef) rfl (run (d:=d+7) (G:=ex 0 (.v 4) (MX k o a f p q m j .undef (CX x) .undef) h (CX x,h)) [.u (GG x)])
 have n0:(a.args p q).length < LF:=args_eq a p q▸hl
 exact run [.n n0,.m c0,
  .p 16 (cJ (rb (h:=h) (W:=W))),.g (sN (w:=false) (o:=o) (a:=a) (p:=p) (q:=q) (m:=m) (j:=j) (h:=h1 h W) hf),.a 17 (EH (h:=h) (x:=oV (obj f)) hl),.a 12 ((EG (h:=h) (W:=W++[oV (obj f)]) (ks:=[]) hd).trans (congrArg (λl=>some (aa.list l,H)) hL)),
  .n hn,.m (comp_map H (f:=ov (aM pg (d+7)) (.v 5) none TC (MX k o a f p q m j (.list v) .undef .undef)) (en:=λx:aa×Bool=>x.1) (g:=λx:aa×Bool=>aa.bool x.2) L λx hx=>jf (env':=MX k o a f p q m j (.list v) .undef x.1) rfl (xm x hx)),.v 4 (any_bools (λx:aa×Bool=>x.2) L)]
end
end Mn.Q
end
section
set_option genInjectivity false
set_option genSizeOf false
namespace Mn.Q
set_option autoImplicit true
set_option genCtorIdx true in
inductive Oi where | i0 | i1 | i2
inductive V where | o (i:Oi) | n | u (b:Bool) | k (j:Int)
noncomputable def Oi.n:Oi->Int | .i0=>0 | .i1=>1 | .i2=>2
noncomputable def V.s:V->Sx
 | .o _=>mH | .n=>F8 | .u _=>pj | .k _=>jW
noncomputable def V.i:V->Int
 | .o i=>i.n | .n=>0 | .u b=>bi b | .k j=>j
noncomputable def V.enc(v:V):aa:=.tup [.str v.s,.int v.i]
noncomputable def V.null:V->Bool | .n=>true | .u _=>true | _=>false
inductive Ob where | e0 | e1 (c:Nm) (v:V) | e2 (c:Nm) (v w:V)
noncomputable def Nm.other:Nm->Nm | .a=>.b | .b=>.a
noncomputable def Ob.enc:Ob->ak
 | .e0=>.sd []
 | .e1 c v=>.sd [(c.s,v.enc)]
 | .e2 c v w=>.sd [(c.s,v.enc),(c.other.s,w.enc)]
noncomputable def Ob.get:Ob->Nm->V
 | .e1 .a v,.a=>v
 | .e1 .b v,.b=>v
 | .e2 .a v _,.a=>v
 | .e2 .a _ w,.b=>w
 | .e2 .b v _,.b=>v
 | .e2 .b _ w,.a=>w
 | _,_=>.u false
noncomputable def Ob.set:Ob->Nm->V->Ob
 | .e0,c,x=>.e1 c x
 | .e1 .a v,.a,x=>.e1 .a x
 | .e1 .a v,.b,x=>.e2 .a v x
 | .e1 .b v,.b,x=>.e1 .b x
 | .e1 .b v,.a,x=>.e2 .b v x
 | .e2 .a v w,.a,x=>.e2 .a x w
 | .e2 .a v w,.b,x=>.e2 .a v x
 | .e2 .b v w,.b,x=>.e2 .b x w
 | .e2 .b v w,.a,x=>.e2 .b v x
noncomputable def Ob.del:Ob->Nm->Ob
 | .e0,c=>.e0
 | .e1 .a v,.a=>.e0
 | .e1 .a v,.b=>.e1 .a v
 | .e1 .b v,.b=>.e0
 | .e1 .b v,.a=>.e1 .b v
 | .e2 .a v w,.a=>.e1 .b w
 | .e2 .a v w,.b=>.e1 .a v
 | .e2 .b v w,.b=>.e1 .a w
 | .e2 .b v w,.a=>.e1 .b v
set_option genCtorIdx true in
inductive Of where | z | t | c
noncomputable def Of.n:Of->Int | .z=>0 | .t=>1 | .c=>2
structure Fx where
 nums:List Nat
 next:Nat
 u:List (Int×aa)
 stack:aa
 rd:List aa
 wr:List aa
 cl:List aa
 own:List (Int×aa)
 key:Path
 gK:Hid
 vt:V
 i8:Nat
 i9:Nat
structure Vs where
 n:Nat
 roll:Nat
 r1:V
 r2:V
 o0:Ob
 o1:Ob
 o2:Ob
 met:List (Int×aa)
 off:Of
 done:List aa
 bl:List aa
noncomputable def b7(k:Path):aa:=.tup (.str k.1.s::k.2.map λc=>.str c.s)
noncomputable def N6(f:Fx)(s:Vs):List (Sx×aa):=[(qP,.list (f.nums.map λn=>.int (n:Nat))),(ux,.int f.next),(cc,.bw 1 0),(eY,f.stack),(iv,.bw 2 1),(ja,.bw 3 2),(lb,.bw 4 3),(qO,.bw 5 4),(wu,.bw 6 5),(uu,.int s.roll),
 (eI,b7 f.key),(dO,f.gK.enc),(jz,.bw 7 7),(oP,.list [.bw 10 8,.bw 11 9,.bw 12 10]),(d9,.int s.off.n),(gw,.bw 8 f.i8),(gg,.bw 9 f.i9)]
noncomputable def R(f:Fx)(s:Vs):Hp:=⟨[some (6,.sd (N6 f s)),some (0,.eg f.u),some (1,.list f.rd),some (2,.list f.wr),some (3,.list f.cl),some (4,.eg f.own),some (5,.eg s.met),
 some (7,.sd [(jy,s.r1.enc),(mG,s.r2.enc),(ym,.tup [.str jW,.int 1]),(gY,f.vt.enc)]),some (f.i8,.list s.done),some (f.i9,.list s.bl),some (8,s.o0.enc),some (9,s.o1.enc),some (10,s.o2.enc)],[],s.n⟩
noncomputable abbrev W:aa:=.bw 0 6
set_option genCtorIdx true in
inductive NZ where | nul | or | and
noncomputable def NZ.s:NZ->Sx | .nul=>gZ | .or=>fb | .and=>jB
noncomputable def V.truth:V->Bool
 | .o _=>true
 | .k j=> !(j==0)
 | _=>false
noncomputable def V.lM(g:NZ)(v:V):Bool:=match g with
 | .nul=> !v.null
 | .or=>v.truth
 | .and=> !v.truth
noncomputable def Jd(f:Fx)(s:Vs):Rt->V | .s1=>s.r1 | .s2=>s.r2 | .s3=>.k 1 | .this=>f.vt
noncomputable def Vs.ob(s:Vs):Oi->Ob | .i0=>s.o0 | .i1=>s.o1 | .i2=>s.o2
noncomputable def f7(g:Oi->Ob)(v:V)(c:Nm):V:=match v with
 | .o i=>(g i).get c
 | _=>.u false
noncomputable def CF(g:Oi->Ob)(v:V):List Nm->List V
 | []=>[]
 | c::l=>f7 g v c::CF g (f7 g v c) l
noncomputable def tr(f:Fx)(s:Vs):List V:=Jd f s f.key.1::CF s.ob (Jd f s f.key.1) f.key.2
noncomputable def Oi.ref:Oi->aa | .i0=>.bw 10 8 | .i1=>.bw 11 9 | .i2=>.bw 12 10
noncomputable def V.norm:V->V | .u _=>.u false | v=>v
noncomputable def Vs.put(s:Vs)(i:Oi)(o:Ob):Vs:=match i with
 | .i0=>{s with o0:=o}
 | .i1=>{s with o1:=o}
 | .i2=>{s with o2:=o}
noncomputable def Vs.laid(s:Vs)(deed:aa)(sort:Sx)(m:Nat)(q:Bool)(n:Nat):Vs:={s with n:=n,done:=s.done++[.int m],bl:=bif q then s.bl++[.tup [deed,.str sort]]else s.bl}
section
variable{d:Nat}{f:Fx}{s s1:Vs}{h:Hp}
noncomputable def Pl(h:Hp)(v:V):Gl:=cl F.fy [v.enc] h (.bool v.null,h)
theorem nj(h:Hp)(v:V):(Pl h v).ok d:=by cases v <;> kernel_rfl
noncomputable def Kv(h:Hp)(g:NZ)(v:V):Gl:=cl F.eB [.str g.s,v.enc] h (.bool (v.lM g),h)
theorem mV(h:Hp)(g:NZ)(v:V):(Kv h g v).ok (d+1):=by
 cases g with
 | nul=>exact run [.g (nj h v)]
 | or=>cases v with
  | k j=>
   show (cl F.eB _ h (.bool (!(j==0)),h)).ok (d+1)
   cases q:j==0 <;> exact run [.s 110 3,.d (congrArg (!·) q)]
  | _=>kernel_rfl
 | and=>cases v with
  | k j=>
   show (cl F.eB _ h (.bool (!!(j==0)),h)).ok (d+1)
   cases q:j==0 <;> exact run [.s 110 3,.d (congrArg (!·) q)]
  | _=>kernel_rfl
theorem DW{i j:Int}(h:0 < j/\j < 1073741824):eZ i j=some (i % j):=if_pos h
theorem E5{i j:Int}(h:0 < j/\j < 1073741824):E6 i j=some (i / j):=if_pos h
theorem b9{i j:Int}(h:0 < j/\j < 1073741824):arith eZ (.int i) (.int j)=some (.int (i % j)):=congrArg (Option.map aa.int) (DW h)
theorem gz{i j:Int}(h:0 < j/\j < 1073741824):arith E6 (.int i) (.int j)=some (.int (i / j)):=congrArg (Option.map aa.int) (E5 h)
theorem len_list{xs:List aa}(hl:xs.length < LF)(h:Hp):tw h .len (.list xs)=some (.int xs.length):=gU hl
theorem nQ{xs:List aa}{a:aa}(e:om h a=some xs){k:Int}(hk: -1048576 < k/\k < 1048576):aY h a (.int k)=px xs k:=(congrArg (λo=>oS o (λxs=>uO (decide (-1048576 < k/\k < 1048576)) (px xs k)) (oF (bH h a) (λkvs=>cU kvs k) none)) e).trans (by show uO (decide _) _=_;rw [decide_eq_true hk];rfl)
theorem s9{xs:List aa}{n:Nat}(hn:n < xs.length):px xs (n:Int)=some xs[n]:=(if_pos (Int.natCast_nonneg n)).trans (List.getElem?_eq_getElem hn)
noncomputable def kg(f:Fx):List aa:=f.nums.map λn=>.int (n:Nat)
noncomputable def OW(f:Fx)(s:Vs)(r:Nat):Gl:=cl F.qF [W] (R f s) (.int (r:Nat),R f {s with roll:=s.roll + 1})
theorem zE(hn:f.nums≠[])(hl:f.nums.length < 1000):∃r:Nat,(OW f s r).ok d:=by
 have h0:0 < f.nums.length:=List.length_pos_iff.mpr hn
 have hi:(s.roll + 1) % f.nums.length < f.nums.length:=Nat.mod_lt _ h0
 have h1:(kg f).length=f.nums.length:=List.length_map _
 have hi':(s.roll + 1) % (kg f).length < (kg f).length:=h1.symm▸hi
 have hb:(0:Int) < ((kg f).length:Nat)/\(((kg f).length:Nat):Int) < 1073741824:=h1.symm▸⟨Int.natCast_pos.mpr h0,Int.ofNat_lt.mpr (cK hl (aI rfl))⟩
 obtain ⟨n,e⟩:∃n:Nat,px (kg f) (((s.roll + 1) % (kg f).length:Nat):Int)=some (.int (n:Nat)):=⟨_,(s9 hi').trans (congrArg some (List.getElem_map (λn:Nat=>aa.int n) (h:=hi')))⟩
 have hk: -1048576 < (((s.roll + 1) % (kg f).length:Nat):Int)/\(((s.roll + 1) % (kg f).length:Nat):Int) < 1048576:=⟨Int.lt_of_lt_of_le (by decide) (Int.natCast_nonneg _),Int.ofNat_lt.mpr (cK hi' (h1.symm▸cK hl (aI rfl)))⟩
 exact ⟨n / 16,run [.v 4 (len_list (xs:=kg f) (h1.symm▸cK hl (aI rfl))),.w 7 (b9 (i:=(s.roll + 1:Nat)) hb),.v 0 (λh=>(nQ (h:=h) (a:=.list (kg f)) rfl hk).trans e),.w 7 (gz (i:=(n:Nat)) (j:=16) (by decide))]⟩
theorem V.Lq{P:V->Prop}(o:∀i,P (.o i))(x:∀v,(v.s==mH)=false->(∀g c,f7 g v c= .u false)->P v)(v:V):P v:=match v with
 | .o i=>o i
 | .n=>x _ rfl λ_ _=>rfl
 | .u _=>x _ rfl λ_ _=>rfl
 | .k _=>x _ rfl λ_ _=>rfl
theorem JO{h:Hp}{x:aa}{o:Ob}(e:bH h x=some o.enc)(c:Nm):yF h x (.str c.s) (.tup [.str pj,.int 0])=some (o.get c).enc:=by
 refine (congrArg (λo=>ie o (λkvs=>some ((bZ kvs c.s).getD (.tup [.str pj,.int 0]))) (oF o (λkvs=>none) none)) e).trans ?_
 cases o with
 | e0=>rfl
 | e1 b v=>cases b <;> cases c <;> rfl
 | e2 b v w=>cases b <;> cases c <;> rfl
theorem QA(v:V):gj v.enc=true:=rfl
theorem yM{h:Hp}{x:aa}{o:Ob}(e:bH h x=some o.enc):some (gI h x)=some true:=(congrArg (λo=>some (ie o (λ_=>true) (oF o (λ_=>true) false))) e).trans (by cases o <;> rfl)
theorem qV{α:Type}(l:List α)(x:α):px (l++[x]) (-1)=some x:=by
 have hl:(l++[x]).length=l.length + 1:=List.length_append
 have h2:(0:Int)<= -1 + ((l++[x]).length:Nat):=by lia
 have h3:(-1 + ((l++[x]).length:Nat):Int).toNat=l.length:=by lia
 exact (if_neg (by decide)).trans ((if_pos h2).trans (h3▸List.getElem?_concat_length))
theorem Rh:iN (R f s):=λp hp=>nomatch hp
theorem ni(i:Oi)(h:Hp):aY h (.list [.bw 10 8,.bw 11 9,.bw 12 10]) (.int i.n)=some i.ref:=by cases i <;> rfl
theorem FK{i:Oi}:bH (R f s) i.ref=some (s.ob i).enc:=by cases i <;> rfl
theorem Np{i:Oi}{O:List aa}:bH (h1 (R f s) O) i.ref=some (s.ob i).enc:=by cases i <;> rfl
noncomputable def Ul(f:Fx)(s:Vs)(l:List Nm)(a b:aa)(O:List aa)(v:V):Gl:=fo 1 fk (l.map λc=>.str c.s) [W,.af s.n,a,b] (h1 (R f s) (O++[v.enc])) (.list ((O++[v.enc])++(CF s.ob v l).map V.enc),R f {s with n:=s.n + 1})
theorem Og(l:List Nm):∀O v a b,O.length + l.length < 900->(Ul f s l a b O v).ok d:=by
 induction l with
 | nil=>exact λO v a b _=>(congrArg (λl=>(fo 1 fk [] [W,.af s.n,a,b] (h1 (R f s) (O++[v.enc])) (.list l,R f {s with n:=s.n + 1})).ok d) (cY (O++[v.enc]))).mpr <| run (G:=fo 1 fk [] [W,.af s.n,a,b] (h1 (R f s) (O++[v.enc])) (.list (O++[v.enc]),R f {s with n:=s.n + 1})) [.a 12 (EG (h:=R f s) (W:=O++[v.enc]) (ks:=[aq,aG]) Rh)]
 | cons c l ih=>
  intro O v a b hl
  have hl':O.length + 1 + l.length < 900:=Nat.succ_add O.length l.length▸hl
  have n1:(O++[v.enc]).length < LF:=(List.length_append (as:=O) (bs:=[v.enc])).symm▸bJ (aJ _ _) (cK hl' (aI rfl))
  have i:=ih (O++[v.enc]) (f7 s.ob v c) (.str c.s) v.enc ((List.length_append (as:=O) (bs:=[v.enc])).symm▸hl')
  have f0:aY (h1 (R f s) (O++[v.enc])) (.af s.n) (.int (-1))=some v.enc:=(nQ (h:=h1 (R f s) (O++[v.enc])) (a:=.af s.n) (congrArg (λo=>oL o some none) (rb (h:=R f s) (W:=O++[v.enc]))) (by decide)).trans (qV O v.enc)
  have app:cz (.af s.n) (f7 s.ob v c).enc (h1 (R f s) (O++[v.enc]))=some (.none,h1 (R f s) (O++[v.enc]++[(f7 s.ob v c).enc])):=EH n1
  have il:=cJ (rb (h:=R f s) (W:=O++[v.enc]))
  have e:(O++[v.enc]++[(f7 s.ob v c).enc])++(CF s.ob (f7 s.ob v c) l).map V.enc=(O++[v.enc])++(CF s.ob v (c::l)).map V.enc:=cL _ [_] _
  unfold Ul at i ⊢
  rw [e]at i
  exact V.Lq (P:=λv=>aY (h1 (R f s) (O++[v.enc])) (.af s.n) (.int (-1))=some v.enc->some (fF (h1 (R f s) (O++[v.enc])) (.af s.n))=some true->cz (.af s.n) (f7 s.ob v c).enc (h1 (R f s) (O++[v.enc]))=some (.none,h1 (R f s) (O++[v.enc]++[(f7 s.ob v c).enc]))->
    (fo 1 fk (l.map λc=>.str c.s) [W,.af s.n,.str c.s,v.enc] (h1 (R f s) (O++[v.enc]++[(f7 s.ob v c).enc])) (.list ((O++[v.enc])++(CF s.ob v (c::l)).map V.enc),R f {s with n:=s.n + 1})).ok d->(fo 1 fk ((c::l).map λc=>.str c.s) [W,.af s.n,a,b] (h1 (R f s) (O++[v.enc])) (.list ((O++[v.enc])++(CF s.ob v (c::l)).map V.enc),R f {s with n:=s.n + 1})).ok d)
   (λj f0 il app i=>have ao:bH (h1 (R f s) (O++[V.enc (.o j)])) j.ref=some (s.ob j).enc:=Np
    run [.w 0 f0,.p 16 il,.s 0 3,.v 0 (ni j),.p 16 (yM ao),.w 3 (JO ao c),.a 17 app,.l i])
   (λv q n f0 il app i=>by rw [n]at app;rw [n]at i;exact run [.w 0 f0,.p 16 il,.d q,.a 17 app,.l i]) v f0 il app i
noncomputable def Kl(f:Fx)(s:Vs):Gl:=cl F.oN [W] (R f s) (.list ((tr f s).map V.enc),R f {s with n:=s.n + 1})
theorem jZ(s:Vs)(hk:f.key∈keys):(Kl f s).ok d:=by
 have hl:=ir (P:=λk=>k.2.length<=2) hk (bY rfl) (bY rfl) (bY rfl) (bY rfl) (bY rfl)
 have rt:aY (R f s) (.bw 7 7) (.str f.key.1.s)=some (Jd f s f.key.1).enc:=by cases f.key.1 <;> rfl
 have sl:∀h,eK h (b7 f.key) (.int 1) .none=some (.tup (f.key.2.map λc=>.str c.s)):=λh=>if_pos ⟨by decide,Int.ofNat_le.mpr (ee (bP _)),decide_eq_true (bJ (ee ((List.length_map λc:Nm=>aa.str c.s).symm▸hl)) (aI rfl))⟩
 exact run [.s 0 3,.w 0 rt,.v 5 sl,.l (Og (f:=f) (s:=s) f.key.2 [] (Jd f s f.key.1) .undef .undef (bJ (dB hl 0) (aI rfl)))]
end
end Mn.Q
end
section
namespace Mn.Q
set_option autoImplicit true
theorem E8(l:List V):pJ (l.map V.enc) (l.map V.enc)=true:=by
 have e:∀v:V,uU v.enc v.enc=true:=λv=>show (v.s==v.s&&(v.i==v.i&&true))=true by rw [beq_self_eq_true,beq_self_eq_true];rfl
 induction l with
 | nil=>rfl
 | cons v l ih=>show (uU v.enc v.enc&&pJ _ _)=true;rw [e v,ih];rfl
theorem Et(l:List V):hG 3 (.list (l.map V.enc))=true:=by
 show (l.map V.enc).all (hG 2)=true
 induction l with
 | nil=>rfl
 | cons v l ih=>exact ih
theorem Pw(a b:List V):∃q,(a=b->q=false)/\∀h,ck h .ne (.list (a.map V.enc)) (.list (b.map V.enc))=some q:=by
 refine ⟨!pJ (a.map V.enc) (b.map V.enc),λe=>e▸congrArg (!·) (E8 a),λh=>?_⟩
 show uO (hG 3 (.list (a.map V.enc))) (vW (bif hG 3 (.list (a.map V.enc))&&hG 3 (.list (b.map V.enc))then _ else _))=_
 rw [Et,Et];rfl
section
variable{d:Nat}{f:Fx}{s:Vs}{m:Nat}{K fl:Int}{a:aa}{ks:List aa}{sort:Sx}
theorem g8:pI (R f s).G[8]? f.i8=some (.list s.done):=congrArg (λb=>bif b then some (ak.list s.done)else none) (NS f.i8)
theorem jg:(R f s).get (.bw 8 f.i8)=some (.list s.done):=g8
theorem yU:(R f s).get (.bw 9 f.i9)=some (.list s.bl):=congrArg (λb=>bif b then some (ak.list s.bl)else none) (NS f.i9)
theorem kR(s:Vs)(x:aa)(hl:s.done.length < LF):cz (.bw 8 f.i8) x (R f s)=some (.none,R f {s with done:=s.done++[x]}):=gA jg hl
theorem M8(s:Vs)(x:aa)(hl:s.bl.length < LF):cz (.bw 9 f.i9) x (R f s)=some (.none,R f {s with bl:=s.bl++[x]}):=gA yU hl
noncomputable def Ht(hk:f.key∈keys)(s:Vs)(m:Nat)(hl:s.done.length < LF)(r:List (Fact (d+1))):List (Fact (d+1)):=
 .p 16 (cJ (jg (f:=f) (s:=s))):: .a 17 (kR (f:=f) s (.int m) hl):: .g (jZ (d:=d) {s with done:=s.done++[.int m]} hk)::r
noncomputable def layB(f:Fx)(s:Vs)(x:aa)(hl:s.bl.length < LF)(r:List (Fact d)):List (Fact d):=.p 16 (cJ (yU (f:=f) (s:=s))):: .a 17 (M8 (f:=f) s x hl)::r
noncomputable def Hu(f:Fx)(s:Vs)(deed:aa)(sort:Sx)(box:aa)(name:Sx)(v:aa)(s':Vs):Gl:=cl F.nH [W,deed,.str sort,box,.str name,v] (R f s) (.none,R f s')
noncomputable def xq(d:Nat)(f:Fx)(s s1:Vs)(K:Int)(a:aa)(ks:List aa)(fl:Int)(m:Nat)(sort:Sx)(box:aa)(name:Sx)(v:aa):Prop:=
 ∃q n,(tr f s1=tr f s->q=false)/\(Hu f s (nd K a ks fl m) sort box name v (s1.laid (nd K a ks fl m) sort m q n)).ok d
noncomputable abbrev SR:ME:=.ite (.cmp .eq (.item (.v 5) (.c (.int 0))) (.c (.str pj))) (.tup [(.c (.str pj)),(.c (.int 0))]) (.v 5)
noncomputable def SU(deed box t:aa)(sort name:Sx)(h:Hp)(v:V):Gl:=ex 14 SR [W,deed,.str sort,box,.str name,v.enc,t] h (v.norm.enc,h)
theorem ye(deed box t:aa)(sort name:Sx)(h:Hp)(v:V):(SU deed box t sort name h v).ok d:=by cases v <;> kernel_rfl
theorem uj{box v:aa}{name:Sx}{s1:Vs}(hd:s1.done.length < LF)(hb:s1.bl.length < LF)(mk:∀q,(∀h,ck h .ne (.list ((tr f s1).map V.enc)) (.list ((tr f s).map V.enc))=some q)->(Hu f s (nd K a ks fl m) sort box name v (s1.laid (nd K a ks fl m) sort m q (s.n + 2))).ok d):xq d f s s1 K a ks fl m sort box name v:=by
 obtain ⟨q,h,e⟩:=Pw (tr f s1) (tr f s)
 exact ⟨q,s.n + 2,h,mk q e⟩
theorem f5{i:Oi}{o:Ob}:(s.put i o).done=s.done/\(s.put i o).bl=s.bl/\(s.put i o).met=s.met/\(s.put i o).off=s.off:=by cases i <;> exact ⟨rfl,rfl,rfl,rfl⟩
theorem zJ{i:Oi}{o:Ob}{n:Nat}:({s.put i o with n:=n}:Vs)=({s with n:=n}:Vs).put i o:=by cases i <;> rfl
theorem Qq{i:Oi}:(R f s).get i.ref=some (s.ob i).enc:=by cases i <;> rfl
theorem K9{i:Oi}{o:Ob}:(R f s).put i.ref o.enc=R f (s.put i o):=by cases i <;> rfl
theorem Ln{i:Oi}{n:Nat}:({s with n:=n}:Vs).ob i=s.ob i:=by cases i <;> rfl
theorem zI(i:Oi):gj i.ref=true:=by cases i <;> rfl
noncomputable def Jl(a:aa)(c:Sx)(v:aa)(o:Option ak):HM aa:=ie o (λkvs=>sm kvs.length (vo λh=>h.put a (.sd (sset kvs c v)))) <| oF o (λkvs=>no) no
theorem OS{h:Hp}{x:aa}{o:Ob}(e:h.get x=some o.enc)(c:Nm)(v:V):de x (.str c.s) v.enc h=some (.none,h.put x (o.set c v).enc):=(congrArg (λo=>Jl x c.s v.enc o h) e).trans (by
 cases o with
 | e0=>rfl
 | e1 b w=>cases b <;> cases c <;> rfl
 | e2 b w y=>cases b <;> cases c <;> rfl)
noncomputable def Pj(x:aa)(c:Sx)(y:aa)(o:Option ak):HM aa:=ie o (λkvs=>sm kvs.length (oS (bZ kvs c) (λv h=>some (v,h.put x (.sd (GR kvs c)))) (aj y))) no
theorem QJ{h:Hp}{x y:aa}{o:Ob}(e:h.get x=some o.enc)(hx:h.put x o.enc=h)(c:Nm):∃z,vR x c.s y h=some (z,h.put x (o.del c).enc):=by
 show ∃z,Pj x c.s y (h.get x) h=_
 rw [e]
 have no:∀{o':Ob},o'=o->∃z,some (y,h)=some (z,h.put x o'.enc):=λq=>⟨y,by rw [q,hx]⟩
 cases o with
 | e0=>exact no rfl
 | e1 b w=>cases b <;> cases c <;> first | exact no rfl | exact ⟨_,rfl⟩
 | e2 b w y=>cases b <;> cases c <;> exact ⟨_,rfl⟩
variable(hk:f.key∈keys)(hd:s.done.length < LF)(hb:s.bl.length < LF)
include hk hd hb
theorem D9(v:V):xq (d+1) f s {s with r1:=v.norm} K a ks fl m sort (.bw 7 7) jy v.enc:=
 uj (s1:={s with r1:=v.norm}) hd hb λq e=>
  let t:List (Fact (d+1))->List (Fact (d+1)):=λr=>.g (jZ s hk):: .l (ye (nd K a ks fl m) (.bw 7 7) (.list ((tr f s).map V.enc)) sort jy (R f {s with n:=s.n + 1}) v)::Ht hk {s with n:=s.n + 1,r1:=v.norm} m hd r
  match q,e with
  | true,e=>run (t (.q 1 e::layB f {s with n:=s.n + 2,r1:=v.norm,done:=s.done++[.int m]} (.tup [nd K a ks fl m,.str sort]) hb []))
  | false,e=>run (t [.q 1 e])
theorem D8(v:V):xq (d+1) f s {s with r2:=v.norm} K a ks fl m sort (.bw 7 7) mG v.enc:=
 uj (s1:={s with r2:=v.norm}) hd hb λq e=>
  let t:List (Fact (d+1))->List (Fact (d+1)):=λr=>.g (jZ s hk):: .l (ye (nd K a ks fl m) (.bw 7 7) (.list ((tr f s).map V.enc)) sort mG (R f {s with n:=s.n + 1}) v)::Ht hk {s with n:=s.n + 1,r2:=v.norm} m hd r
  match q,e with
  | true,e=>run (t (.q 1 e::layB f {s with n:=s.n + 2,r2:=v.norm,done:=s.done++[.int m]} (.tup [nd K a ks fl m,.str sort]) hb []))
  | false,e=>run (t [.q 1 e])
theorem zW(i:Oi)(c:Nm)(v:V):xq (d+1) f s (s.put i ((s.ob i).set c v.norm)) K a ks fl m sort i.ref c.s v.enc:=by
 let s1:=s.put i ((s.ob i).set c v.norm)
 have fG:s1.done.length < LF:=f5.1.symm▸hd
 have hb1:s1.bl.length < LF:=f5.2.1.symm▸hb
 have st:de i.ref (.str c.s) v.norm.enc (R f {s with n:=s.n + 1})=some (.none,R f {s1 with n:=s.n + 1}):=(OS (Qq.trans (congrArg (λo=>some (Ob.enc o)) Ln)) c v.norm).trans (congrArg (λh=>some (aa.none,h)) (K9.trans (congrArg (R f) zJ.symm)))
 refine uj (s1:=s1) fG hb1 λq e=>?_
 let t:List (Fact (d+1))->List (Fact (d+1)):=λr=>.g (jZ s hk):: .l (ye (nd K a ks fl m) i.ref (.list ((tr f s).map V.enc)) sort c.s (R f {s with n:=s.n + 1}) v):: .u (zI i):: .a 15 st::Ht hk {s1 with n:=s.n + 1} m fG r
 cases q with
 | true=>exact run (t (.q 1 e::layB f {s1 with n:=s.n + 2,done:=s1.done++[.int m]} (.tup [nd K a ks fl m,.str sort]) hb1 []))
 | false=>exact run (t [.q 1 e])
theorem zX(i:Oi)(c:Nm):xq (d+1) f s (s.put i ((s.ob i).del c)) K a ks fl m sort i.ref c.s .none:=by
 let s1:=s.put i ((s.ob i).del c)
 have fG:s1.done.length < LF:=f5.1.symm▸hd
 have hb1:s1.bl.length < LF:=f5.2.1.symm▸hb
 have gt:(R f {s with n:=s.n + 1}).get i.ref=some (s.ob i).enc:=Qq.trans (congrArg (λo=>some (Ob.enc o)) Ln)
 have dt:some (gI (R f {s with n:=s.n + 1}) i.ref)=some true:=yM (FK.trans (congrArg (λo=>some (Ob.enc o)) Ln))
 obtain ⟨z,st⟩:=QJ (y:=.none) gt (K9.trans (congrArg (R f) (by cases i <;> rfl))) c
 have st:vR i.ref c.s .none (R f {s with n:=s.n + 1})=some (z,R f {s1 with n:=s.n + 1}):=st.trans (congrArg (λh=>some (z,h)) (K9.trans (congrArg (R f) zJ.symm)))
 refine uj (s1:=s1) fG hb1 λq e=>?_
 let t:List (Fact (d+1))->List (Fact (d+1)):=λr=>.g (jZ s hk):: .s 105 1:: .u (zI i):: .p 16 dt:: .a 11 st::Ht hk {s1 with n:=s.n + 1} m fG r
 cases q with
 | true=>exact run (t (.q 1 e::layB f {s1 with n:=s.n + 2,done:=s1.done++[.int m]} (.tup [nd K a ks fl m,.str sort]) hb1 []))
 | false=>exact run (t [.q 1 e])
end
end Mn.Q
end
section
set_option genInjectivity false
namespace Mn.Q
set_option autoImplicit true
structure Cx(f:Fx):Prop where
 key:f.key∈keys
 nums:f.nums≠[]
 len:f.nums.length < 1000
noncomputable def cnt(s:Vs):Nat:=s.done.length + s.bl.length + s.met.length
noncomputable def Bd(c:Nat)(s:Vs):Prop:=cnt s + c<=900000
noncomputable def Rr.bW:Rr->Nat
 | .mem _ _ _ n=>n
 | .idx _ _ _ n=>n
 | .Cg _ m=>m
 | .pat k t=>k.N t
theorem Rr.nd{r:Rr}(h:r.ok=true):∃K a ks fl,r.enc=Q.nd K a ks fl r.bW:=match r with
 | .mem _ _ _ _=>⟨_,_,_,_,rfl⟩
 | .idx _ _ _ _=>⟨_,_,_,_,rfl⟩
 | .Cg _ _=>⟨_,_,_,_,rfl⟩
 | .pat _ _=>⟨_,_,_,_,rfl⟩
inductive GB(f:Fx)(N:List Nat):aa->Prop
 | set {e:E}:bW e∈N->lC e->Ok f.u e->(lR e f.key ||(jw e f.key ||sS e f.key))=true->GB f N (.tup [enc e,.str gC])
 | call {w o k g p q m n}:n∈N->Ok f.u g->glob g=false->GB f N (.tup [enc (.call w o k g p q m n),.str kB])
 | read {r:Rr}:r.ok=true->r.bW∈N->r.gK f.gK=true->GB f N (.tup [r.enc,.str gv])
theorem GB.mono{f:Fx}{N N':List Nat}(h:∀m∈N,m∈N'){b:aa}(x:GB f N b):GB f N' b:=by
 cases x with
 | set a b c d=>exact .set (h _ a) b c d
 | call a b c=>exact .call (h _ a) b c
 | read a b c=>exact .read a (h _ b) c
structure Wt where
 N:List Nat
 I:List Nat
 c:Nat
noncomputable def Wt.add(x y:Wt):Wt:=⟨x.N++y.N,x.I++y.I,x.c + y.c⟩
structure Wt.le(x y:Wt):Prop where
 n:∀m∈x.N,m∈y.N
 i:∀m∈x.I,m∈y.I
 c:x.c<=y.c
noncomputable def w0:Wt:=⟨[],[],0⟩
structure Ext(f:Fx)(w:Wt)(s s':Vs)(ds:List Nat):Prop where
 done:s'.done=s.done++ds.map λm=>.int (m:Nat)
 mem:∀m∈ds,m∈w.N
 bl:∃bs,s'.bl=s.bl++bs/\∀b∈bs,GB f w.N b
 met:∀m:Nat,m∉w.I->cU s'.met (m:Int)=cU s.met (m:Int)
 cn:cnt s'<=cnt s + w.c
section
variable{d:Nat}{f:Fx}{s s1 s2 s':Vs}{x y z:Wt}{c c':Nat}{ds ds':List Nat}
theorem Wt.le.l:x.le (x.add y):=⟨λ_=>cu _,λ_=>cu _,aJ _ _⟩
theorem Wt.le.r:y.le (x.add y):=⟨λ_=>c6 _,λ_=>c6 _,hX _ _⟩
theorem Wt.le.trans(h:x.le y)(k:y.le z):x.le z:=⟨λm q=>k.n m (h.n m q),λm q=>k.i m (h.i m q),ai h.c k.c⟩
theorem Wt.le.rf:x.le x:=⟨λ_ h=>h,λ_ h=>h,aO _⟩
theorem Wt.le.zero:w0.le x:=⟨(λ_ h=>nomatch h),(λ_ h=>nomatch h),bP _⟩
theorem Ext.Jo(h:s'.done=s.done/\s'.bl=s.bl/\s'.met=s.met):Ext f w0 s s' []:=⟨h.1.trans (cY _).symm,(λ_ h=>nomatch h),⟨[],h.2.1.trans (cY _).symm,(λ_ h=>nomatch h)⟩,λ_ _=>by rw [h.2.2],by unfold cnt;rw [h.1,h.2.1,h.2.2];exact aO _⟩
theorem Ext.refl:Ext f w0 s s []:=.Jo ⟨rfl,rfl,rfl⟩
theorem Ext.off{q:Of}:Ext f w0 s {s with off:=q} []:=.Jo ⟨rfl,rfl,rfl⟩
theorem Ext.mono(h:Ext f x s s' ds)(k:x.le y):Ext f y s s' ds:=⟨h.done,λm q=>k.n m (h.mem m q),h.bl.imp λ_ b=>⟨b.1,λr q=>(b.2 r q).mono k.n⟩,λm q=>h.met m λp=>q (k.i m p),ai h.cn (dB k.c _)⟩
theorem Ext.trans(h:Ext f x s s1 ds)(k:Ext f y s1 s2 ds'):Ext f (x.add y) s s2 (ds++ds')where
 done:=by rw [k.done,h.done,List.map_append,cL]
 mem:=λm q=>(List.mem_append.mp q).elim (λq=>cu _ (h.mem m q)) λq=>c6 _ (k.mem m q)
 bl:=by
  obtain ⟨a,e1,g1⟩:=h.bl
  obtain ⟨b,e2,g2⟩:=k.bl
  exact ⟨a++b,by rw [e2,e1,cL],λr q=>(List.mem_append.mp q).elim (λq=>(g1 r q).mono Wt.le.l.n) λq=>(g2 r q).mono Wt.le.r.n⟩
 met:=λm q=>(k.met m λp=>q (c6 _ p)).trans (h.met m λp=>q (cu _ p))
 cn:=ai k.cn (ai (gN h.cn _) (Nat.le_of_eq (Nat.add_assoc _ _ _)))
theorem Bd.l(b:Bd (c + c') s):Bd c s:=ai (dB (aJ c c') _) b
theorem Bd.le(b:Bd c s)(h:c'<=c):Bd c' s:=ai (dB h _) b
theorem Ext.bd(h:Ext f x s s' ds)(b:Bd (x.c + c) s):Bd c s':=ai (gN h.cn c) (ai (Nat.le_of_eq (Nat.add_assoc _ _ _)) b)
theorem Bd.fit(b:Bd c s):s.done.length < LF/\s.bl.length < LF/\s.met.length < LF:=
 have h:cnt s < LF:=bJ (ai (aJ _ _) b) (aI rfl)
 ⟨bJ (ai (aJ _ _) (aJ _ _)) h,bJ (ai (hX _ _) (aJ _ _)) h,bJ (hX _ _) h⟩
structure Lay(row:aa)(m:Nat)(s s':Vs):Prop where
 done:s'.done=s.done++[.int (m:Nat)]
 bl:s'.bl=s.bl\/s'.bl=s.bl++[row]
 met:s'.met=s.met
 off:s'.off=s.off
theorem Lay.ext{row:aa}{m:Nat}{N:List Nat}(h:Lay row m s s')(hm:m∈N)(g:s'.bl=s.bl\/GB f N row):Ext f ⟨N,[],2⟩ s s' [m]where
 done:=h.done
 mem:=bt hm
 bl:=match h.bl,g with
  | .inl e,_=>⟨[],e.trans (cY _).symm,(λ_ h=>nomatch h)⟩
  | _,.inl e=>⟨[],e.trans (cY _).symm,(λ_ h=>nomatch h)⟩
  | .inr e,.inr g=>⟨[row],e,bt g⟩
 met:=λ_ _=>by rw [h.met]
 cn:=by
  have l1:s'.done.length=s.done.length + 1:=(congrArg List.length h.done).trans List.length_append
  have l2:s'.bl.length<=s.bl.length + 1:=h.bl.elim (λe=>e▸dJ _) λe=>Nat.le_of_eq ((congrArg List.length e).trans List.length_append)
  exact ai (eX (eX (Nat.le_of_eq l1) l2) (Nat.le_of_eq (congrArg List.length h.met))) (by unfold cnt;lia)
theorem nJ{deed:aa}{sort:Sx}{m n:Nat}{q:Bool}(h:s1.done=s.done/\s1.bl=s.bl/\s1.met=s.met/\s1.off=s.off):Lay (.tup [deed,.str sort]) m s (s1.laid deed sort m q n):=
 ⟨congrArg (·++[_]) h.1,match q with | true=>.inr (congrArg (·++[_]) h.2.1) | false=>.inl h.2.1,h.2.2.1,h.2.2.2⟩
noncomputable abbrev tQ:aa:=.tup [.tup [.str mH,.int 0],.tup [.str mH,.int 1],.tup [.str mH,.int 2],.tup [.str F8,.int 0],.tup [.str pj,.int 0],.tup [.str jW,.int 0],.tup [.str jW,.int 1]]
theorem oK{P:Nat->Prop}(h0:P 0)(h1:P 1)(h2:P 2)(h3:P 3)(h4:P 4)(h5:P 5)(i:Nat)(h:i < 6):P i:=dZ (dZ (dZ (dZ (dZ (dZ yi h0) h1) h2) h3) h4) h5 i h
theorem vA(i:Nat)(h7:i < 7):∃v:V,∀h,aY h tQ (.int (i:Nat))=some v.enc:=by
 by_cases e:i=6
 ·exact ⟨.k 1,λh=>by rw [e];rfl⟩
 ·exact oK (P:=λi=>∃v:V,∀h,aY h tQ (.int (i:Nat))=some v.enc) ⟨.o .i0,λ_=>rfl⟩ ⟨.o .i1,λ_=>rfl⟩ ⟨.o .i2,λ_=>rfl⟩ ⟨.n,λ_=>rfl⟩ ⟨.u false,λ_=>rfl⟩ ⟨.k 0,λ_=>rfl⟩ i (Nat.lt_of_le_of_ne (Nat.le_of_lt_succ h7) e)
noncomputable def Gz(f:Fx)(s:Vs)(deed:aa)(sort:Sx)(s':Vs):Gl:=cl F.fR [W,deed,.str sort] (R f s) (.none,R f s')
inductive FQ(d:Nat)(f:Fx)(s:Vs)(deed:aa)(sort:Sx)(m:Nat):Prop | mk (s':Vs):(Gz f s deed sort s').ok d->Lay (.tup [deed,.str sort]) m s s'->FQ d f s deed sort m
theorem iO(X:Cx f)(B:Bd c s){K fl:Int}{a:aa}{ks:List aa}{sort:Sx}{m:Nat}:FQ (d+2) f s (nd K a ks fl m) sort m:=by
 obtain ⟨r,er⟩:=zE (d:=d+1) (s:=s) X.nums X.len
 obtain ⟨v,ev⟩:∃v:V,∀h,aY h tQ (.int (((r:Nat):Int) / 6 % 7))=some v.enc:=vA (r / 6 % 7) (Nat.mod_lt _ (aI rfl))
 obtain ⟨b1,b2,_⟩:=B.fit
 let s1:Vs:={s with roll:=s.roll + 1}
 have obj:∀{j:Int} (i:Oi) (c:Nm),((r:Nat):Int) % 6=j->(decide (j < 2)=false)->(∀h,aY h (.list [.bw 10 8,.bw 11 9,.bw 12 10]) (.int (j % 3))=some i.ref)->(∀h,aY h (.tup [.str fE,.str ou]) (.int (j % 2))=some (.str c.s))->FQ (d+2) f s (nd K a ks fl m) sort m:=λ{j} i c e h1 h2 h3=>by
  obtain ⟨q,n,_,el⟩:=zW (d:=d) (K:=K) (a:=a) (ks:=ks) (fl:=fl) (m:=m) (sort:=sort) (s:=s1) X.key b1 b2 i c v
  subst e
  exact ⟨(s1.put i ((s1.ob i).set c v.norm)).laid (nd K a ks fl m) sort m q n,run [.g er,.v 0 ev,.d h1,.s 0 1,.v 0 h2,.v 0 h3,.g el],nJ (s1:=s1.put i ((s1.ob i).set c v.norm)) (f5 (s:=s1))⟩
 have root:∀{j:Int} {s2:Vs} (c:Sx),((r:Nat):Int) % 6=j->(decide (j < 2)=true)->(∀h,aY h (.tup [.str jy,.str mG]) (.int j)=some (.str c))->s2.done=s.done/\s2.bl=s.bl/\s2.met=s.met/\s2.off=s.off->xq (d+1) f s1 s2 K a ks fl m sort (.bw 7 7) c v.enc->FQ (d+2) f s (nd K a ks fl m) sort m:=λ{j s2} c e h1 h2 h3 L=>by
  obtain ⟨q,n,_,el⟩:=L
  subst e
  exact ⟨s2.laid (nd K a ks fl m) sort m q n,run [.g er,.v 0 ev,.d h1,.s 0 1,.v 0 h2,.g el],nJ h3⟩
 exact oK (P:=λi=>((r:Nat):Int) % 6=(i:Nat)->FQ (d+2) f s (nd K a ks fl m) sort m)
  (λe=>root (s2:={s1 with r1:=v.norm}) jy e rfl (λ_=>rfl) ⟨rfl,rfl,rfl,rfl⟩ (D9 (s:=s1) X.key b1 b2 v)) (λe=>root (s2:={s1 with r2:=v.norm}) mG e rfl (λ_=>rfl) ⟨rfl,rfl,rfl,rfl⟩ (D8 (s:=s1) X.key b1 b2 v))
  (λe=>obj .i2 .a e rfl (λ_=>rfl) λ_=>rfl) (λe=>obj .i0 .b e rfl (λ_=>rfl) λ_=>rfl) (λe=>obj .i1 .a e rfl (λ_=>rfl) λ_=>rfl) (λe=>obj .i2 .b e rfl (λ_=>rfl) λ_=>rfl) (r % 6) (Nat.mod_lt _ (aI rfl)) rfl
end
end Mn.Q
end
section
namespace Mn.Q
set_option autoImplicit true
noncomputable def jJ(s:Vs)(o:Bool)(m:Nat)(v:V):Vs:=bif s.off.n==0&&o then (bif v.null then {s with met:=kJ s.met (m:Int) (.bool true),off:=.c}else {s with met:=kJ s.met (m:Int) (.bool false)})else s
noncomputable def Nt.rs:Nt->Sx | .x=>jy | .y=>mG | .f=>ym | .g=>[115,48]
noncomputable def FW:E->Option (Option Nm)
 | .mem _ c _ _=>some (some c)
 | .idx _ t _ _=>some t.nm
 | _=>none
noncomputable def xV:Option V->aa
 | none=>.none
 | some v=>v.enc
section
variable{d c n:Nat}{f:Fx}{s:Vs}{h:Hp}
theorem bN(q:(s.off.n==0)=true):s.off= .z/\decide (s.off.n > 0)=false:=by cases e:s.off <;> rw [e]at q <;> first | exact ⟨rfl,rfl⟩ | cases q
theorem rV(q:(s.off.n==0)=false):s.off≠ .z/\decide (s.off.n > 0)=true:=by cases e:s.off <;> rw [e]at q <;> first | exact ⟨(λh=>nomatch h),rfl⟩ | cases q
theorem SO(q:s.off= .z):(s.off.n==0)=true:=by rw [q];rfl
theorem nb{v:V}{b:Bool}(q:v.null=b)(h:Hp):(cl F.fy [v.enc] h (.bool b,h)).ok d:=q▸nj h v
noncomputable def FF(f:Fx)(s:Vs)(k:Int)(a:aa)(e:E)(r:List aa)(o:Bool)(n:Nat)(v:V)(s':Vs):Gl:=cl F.qK [W,nd k a (enc e::r) (oi o) n,v.enc] (R f s) (.none,R f s')
theorem Aw(B:Bd c s){k:Int}{a:aa}{e:E}{r:List aa}{o:Bool}(v:V):(FF f s k a e r o n v (jJ s o (bW e) v)).ok (d+1):=by
 have b:=B.fit.2.2
 unfold jJ
 cases q:s.off.n==0 with
 | false=>cases o <;> exact run [.d q]
 | true=>cases o with
  | false=>exact run [.d q]
  | true=>cases q2:v.null with
   | true=>exact run [.d q,.g (nb q2 (R f s)),.n b,.g (nb q2 (R f {s with met:=kJ s.met (bW e:Int) (.bool true)}))]
   | false=>exact run [.d q,.g (nb q2 (R f s)),.n b,.g (nb q2 (R f {s with met:=kJ s.met (bW e:Int) (.bool false)}))]
theorem ve(s:Vs)(o:Bool)(m:Nat)(v:V):(jJ s o m v).off= .z->s.off= .z:=by
 unfold jJ
 cases q:s.off.n==0 with
 | true=>exact λ_=>(bN q).1
 | false=>exact id
noncomputable def vO(f:Fx)(s:Vs)(x y:aa)(c:Sx)(v:V)(s':Vs):Gl:=cl F.iX [W,.tup [x,y,.str c]] (R f s) (v.enc,R f s')
theorem sL{u:Nt}{x:aa}:∃v:V,(vO f s x .none u.rs v s).ok (d+1):=by
 cases q:s.off.n==0 with
 | true=>cases u with
  | x=>exact ⟨s.r1,run [.d (bN q).2]⟩
  | y=>exact ⟨s.r2,run [.d (bN q).2]⟩
  | _=>exact ⟨.k 1,run [.d (bN q).2]⟩
 | false=>exact ⟨.u false,run [.d (rV q).2]⟩
theorem yC(H:Hid)(c:Nm)(h:Hp):ck h .in (.str c.s) H.enc=some (H.has c):=by cases H <;> cases c <;> rfl
inductive R4(d:Nat)(f:Fx)(s:Vs)(r:Rr)(c:Nm)(v:V):Prop | mk (v':V) (s':Vs) (ds:List Nat):(vO f s r.enc v.enc c.s v' s').ok d->Ext f ⟨[r.bW],[],2⟩ s s' ds->s'.met=s.met->(s.off≠ .z->s'=s)->(s.off= .z->s'.off=bif v.null then .t else .z)->R4 d f s r c v
theorem qp(X:Cx f)(B:Bd n s){r:Rr}(hr:r.ok=true)(v:V)(c:Nm)(hc:f.gK.has c=true->r.gK f.gK=true):R4 (d+3) f s r c v:=by
 obtain ⟨K,a,ks,fl,er⟩:=r.nd hr
 cases q:s.off.n==0 with
 | false=>exact ⟨.u false,s,[],run [.d (rV q).2],Ext.refl.mono .zero,rfl,λ_=>rfl,λh=>absurd h (rV q).1⟩
 | true=>
  have hz:=(bN q).1
  refine V.Lq (P:=R4 (d+3) f s r c) (λi=>?_) (λv o _=>?_) v
  ·have go:∀s:Vs,bH (R f s) i.ref=some (s.ob i).enc:=λs=>FK
   let T:Vs->List (Fact (d+3)):=λs=>[.s 0 2,.v 0 (ni i),.p 16 (yM (go s)),.w 3 (JO (go s) c)]
   cases q2:f.gK.has c with
   | true=>
    obtain ⟨s',e1,L⟩:=iO (d:=d) (sort:=gv) (K:=K) (a:=a) (ks:=ks) (fl:=fl) (m:=r.bW) X B
    rw [<-er]at e1 L
    refine ⟨(s'.ob i).get c,s',[r.bW],?_,L.ext aF (.inr (.read hr aF (hc q2))),L.met,λh=>absurd hz h,λ_=>L.off.trans hz⟩
    rw [er]at e1 ⊢
    exact run (.d (bN q).2:: .g (nj (R f s) (.o i)):: .s 1 1:: .q 1 (yC f.gK c):: .d q2:: .g e1::T s')
   | false=>exact ⟨(s.ob i).get c,s,[],run (.d (bN q).2:: .g (nj (R f s) (.o i)):: .s 1 1:: .q 1 (yC f.gK c):: .d q2::T s),Ext.refl.mono .zero,rfl,λ_=>rfl,λ_=>hz⟩
  ·cases q2:v.null with
   | true=>exact ⟨.u false,{s with off:=.t},[],run [.d (bN q).2,.g (nb q2 (R f s)),.d (congrArg (!·) o)],Ext.off.mono .zero,rfl,λh=>absurd hz h,λ_=>by rw [q2];rfl⟩
   | false=>exact ⟨.u false,s,[],run [.d (bN q).2,.g (nb q2 (R f s)),.d (congrArg (!·) o)],Ext.refl.mono .zero,rfl,λh=>absurd hz h,λ_=>by rw [q2];exact hz⟩
theorem E.mh{P:E->Option Nm->Prop}(mem:∀o c e m,P (.mem o c e m) (some c))(idx:∀o t e m,P (.idx o t e m) t.nm){t:E}{q:Option Nm}(h:FW t=some q):P t q:=by
 cases t with
 | mem=>exact ay h▸mem _ _ _ _
 | idx=>exact ay h▸idx _ _ _ _
 | _=>exact nomatch (show none=some q from h)
theorem Sl{t:E}{q:Option Nm}{c:Nm}{H:Hid}(h:FW t=some q)(hq:q=none\/q=some c):∃r:Rr,r.ok=true/\r.enc=enc t/\r.bW=bW t/\(H.has c=true->r.gK H=true):=
 E.mh (P:=λt q=>q=none\/q=some c->∃r:Rr,r.ok=true/\r.enc=enc t/\r.bW=bW t/\(H.has c=true->r.gK H=true))
  (λo c' e n hq=>⟨.mem o c' e n,rfl,rfl,rfl,hq.elim (λh=>nomatch h) λh=>ay h▸id⟩)
  (λo t e n hq=>⟨.idx o t e n,rfl,rfl,rfl,λhh=>by
   show t.nm.elim H.some H.has=true
   exact hq.elim (λh=>by rw [h];cases H <;> first | rfl | exact hh) λh=>by rw [h];exact hh⟩) h hq
theorem CD{g g':Oi->Ob}(l:List Nm):∀v:V,(∀j,∀c∈l,(g' j).get c=(g j).get c)->CF g' v l=CF g v l:=by
 induction l with
 | nil=>exact λ_ _=>rfl
 | cons c l ih=>
  intro v h
  have e:f7 g' v c=f7 g v c:=match v with
   | .o i=>h i c aF
   | .n=>rfl
   | .u _=>rfl
   | .k _=>rfl
  show f7 g' v c::CF g' (f7 g' v c) l=f7 g v c::CF g (f7 g v c) l
  rw [e,ih _ λj c hc=>h j c (bB _ hc)]
theorem Jm{P:Nm->Nm->Prop}(ab:P .a .b)(ba:P .b .a)(c c':Nm)(h:c'≠c):P c c':=match c,c' with
 | .a,.b=>ab
 | .b,.a=>ba
 | .a,.a=>absurd rfl h
 | .b,.b=>absurd rfl h
theorem yE(o:Ob)(v:V)(c c':Nm):c'≠c->(o.set c v).get c'=o.get c':=Jm (P:=λc c'=>(o.set c v).get c'=o.get c') (by cases o with
 | e0=>rfl
 | e1 b w=>cases b <;> rfl
 | e2 b w x=>cases b <;> rfl) (by cases o with
 | e0=>rfl
 | e1 b w=>cases b <;> rfl
 | e2 b w x=>cases b <;> rfl) c c'
theorem rg(o:Ob)(c c':Nm):c'≠c->(o.del c).get c'=o.get c':=Jm (P:=λc c'=>(o.del c).get c'=o.get c') (by cases o with
 | e0=>rfl
 | e1 b w=>cases b <;> rfl
 | e2 b w x=>cases b <;> rfl) (by cases o with
 | e0=>rfl
 | e1 b w=>cases b <;> rfl
 | e2 b w x=>cases b <;> rfl) c c'
theorem Lm{i j:Oi}{o:Ob}:(s.put i o).ob j=s.ob j\/(j=i/\(s.put i o).ob j=o):=by
 cases i <;> cases j <;> first | exact .inl rfl | exact .inr ⟨rfl,rfl⟩
theorem xF{i:Oi}{o:Ob}{c:Nm}(hc:c∉f.key.2)(ho:∀c',c'≠c->o.get c'=(s.ob i).get c'):tr f (s.put i o)=tr f s:=by
 have e:Jd f (s.put i o) f.key.1=Jd f s f.key.1:=by cases i <;> cases f.key.1 <;> rfl
 unfold tr
 rw [e,CD (g:=s.ob)]
 exact λj c' hc'=>Lm.elim (λh=>congrArg (Ob.get · c') h) λh=>(congrArg (Ob.get · c') h.2).trans (h.1▸ho c' λq=>hc (q▸hc'))
theorem IW{s':Vs}(o:s'.ob=s.ob)(r:Jd f s' f.key.1=Jd f s f.key.1):tr f s'=tr f s:=by unfold tr;rw [o,r]
theorem Oe{v:V}(h:f.key.1≠ .s1):tr f {s with r1:=v}=tr f s:=IW rfl (by cases q:f.key.1 <;> first | rfl | exact absurd q h)
theorem Od{v:V}(h:f.key.1≠ .s2):tr f {s with r2:=v}=tr f s:=IW rfl (by cases q:f.key.1 <;> first | rfl | exact absurd q h)
noncomputable def Er:Nt->Option Rt | .x=>some .s1 | .y=>some .s2 | _=>none
theorem Qh{a b c:Bool}(h:a=true\/b=true\/c=true):(a ||(b ||c))=true:=h.elim (λh=>by rw [h];rfl) λh=>h.elim (λh=>by rw [h,Bool.true_or,Bool.or_true]) λh=>by rw [h,Bool.or_true,Bool.or_true]
theorem ED{k:Path}(hk:k∈keys){u:Nt}{r:Rt}(hu:Er u=some r)(hr:k.1=r){e:E}{m:Nat}(ht:E.nm u m∈fM e):(lR e k ||(jw e k ||sS e k))=true:=by
 have hv:dz (ref (E.nm u m))=r.s:=by cases u <;> cases hu <;> rfl
 have key:(dz (ref (E.nm u m))==dot k)=true\/pre (dz (ref (E.nm u m))) k=true:=by
  rw [hv,<-hr]
  exact ir (P:=λk=>(k.1.s==dot k)=true\/pre k.1.s k=true) hk (.inl rfl) (.inr rfl) (.inr rfl) (.inr rfl) (.inr rfl)
 exact Qh (key.imp (λh=>List.any_eq_true.mpr ⟨_,ht,h⟩) λh=>.inl (List.any_eq_true.mpr ⟨_,ht,h⟩))
theorem H5{k:Path}{t e:E}{q:Option Nm}{c:Nm}(h:FW t=some q)(hq:q=none\/q=some c)(hc:c∈k.2)(ht:t∈fM e):(lR e k ||(jw e k ||sS e k))=true:=by
 have h1:k.2.contains c=true:=List.contains_iff_mem.mpr hc
 have h2:(!k.2.isEmpty)=true:=match k.2,hc with | _::_,_=>rfl
 have:nB k t=true:=E.mh (P:=λt q=>q=none\/q=some c->nB k t=true)
  (λ_ _ _ _ hq=>hq.elim (λh=>nomatch h) λh=>by cases h;show (_&&_)=true;rw [h1,h2];rfl)
  (λ_ t _ _ hq=>hq.elim (λh=>by show (_&&t.nm.elim _ _)=true;rw [h,h2];rfl) λh=>by show (_&&t.nm.elim _ _)=true;rw [h,h2];exact h1) h hq
 exact Qh (.inr (.inr (List.any_eq_true.mpr ⟨_,ht,this⟩)))
theorem sW{deed:aa}{sort:Sx}{m n:Nat}{q:Bool}{s1:Vs}(h:s1.bl=s.bl)(hq:q=false):(s1.laid deed sort m q n).bl=s.bl:=by rw [hq];exact h
noncomputable def qa(f:Fx)(s:Vs)(deed y base:aa)(c:Sx)(v:aa)(s':Vs):Gl:=cl F.iV [W,deed,.tup [y,base,.str c],v] (R f s) (.none,R f s')
inductive T3(d:Nat)(f:Fx)(s:Vs)(e:E)(y:aa)(u:Nt)(x:V):Prop | mk (s':Vs) (ds:List Nat):(qa f s (enc e) y .none u.rs x.enc s').ok d->Ext f ⟨[bW e],[],2⟩ s s' ds->T3 d f s e y u x
theorem p8(X:Cx f)(B:Bd n s){e:E}{u:Nt}{r:Rt}{m:Nat}(hu:Er u=some r)(ht:E.nm u m∈fM e)(T:lC e)(O:Ok f.u e){y:aa}(x:V):T3 (d+3) f s e y u x:=by
 obtain ⟨b1,b2,_⟩:=B.fit
 cases q:s.off.n==0 with
 | false=>exact ⟨s,[],run [.d (rV q).2],Ext.refl.mono .zero⟩
 | true=>
  have main:∀{s1:Vs},xq (d+2) f s s1 (bV e) (aV e) (kf e).enc (Mw e) (bW e) gC (.bw 7 7) u.rs x.enc->(s1.done=s.done/\s1.bl=s.bl/\s1.met=s.met/\s1.off=s.off)->(f.key.1≠r->tr f s1=tr f s)->T3 (d+3) f s e y u x:=λ{s1} L h k=>by
   obtain ⟨q',n,h',el⟩:=L
   have el:(Hu f s (enc e) gC (.bw 7 7) u.rs x.enc (s1.laid (enc e) gC (bW e) q' n)).ok (d+2):=el
   have L:=nJ (deed:=enc e) (sort:=gC) (m:=bW e) (n:=n) (q:=q') h
   refine ⟨s1.laid (enc e) gC (bW e) q' n,[bW e],run [.d (bN q).2,.g el],L.ext aF ?_⟩
   by_cases hh:f.key.1=r
   ·exact .inr (.set aF T O (ED X.key hu hh ht))
   ·exact .inl (sW h.2.1 (h' (k hh)))
  cases u with
  | x=>cases hu;exact main (D9 X.key b1 b2 x) ⟨rfl,rfl,rfl,rfl⟩ Oe
  | y=>cases hu;exact main (D8 X.key b1 b2 x) ⟨rfl,rfl,rfl,rfl⟩ Od
  | _=>cases hu
inductive RX(d:Nat)(f:Fx)(s:Vs)(e t:E)(c:Nm)(x:Option V)(v:V):Prop | mk (s':Vs) (ds:List Nat):(qa f s (enc e) (enc t) v.enc c.s (xV x) s').ok d->Ext f ⟨[bW t,bW e],[],2⟩ s s' ds->RX d f s e t c x v
theorem so(X:Cx f)(B:Bd n s){e t:E}{q:Option Nm}{c:Nm}(h:FW t=some q)(hq:q=none\/q=some c)(ht:t∈fM e)(T:lC e)(O:Ok f.u e)(v:V)(x:Option V):RX (d+3) f s e t c x v:=by
 obtain ⟨b1,b2,_⟩:=B.fit
 cases q0:s.off.n==0 with
 | false=>exact ⟨s,[],run [.d (rV q0).2],Ext.refl.mono .zero⟩
 | true=>
  refine V.Lq (P:=RX (d+3) f s e t c x) (λi=>?_) (λv o _=>?_) v
  ·have lay:∀{s1:Vs},xq (d+2) f s s1 (bV e) (aV e) (kf e).enc (Mw e) (bW e) gC i.ref c.s (xV x)->(s1.done=s.done/\s1.bl=s.bl/\s1.met=s.met/\s1.off=s.off)->(c∉f.key.2->tr f s1=tr f s)->(∀s',(Hu f s (enc e) gC i.ref c.s (xV x) s').ok (d+2)->(qa f s (enc e) (enc t) (V.enc (.o i)) c.s (xV x) s').ok (d+3))->RX (d+3) f s e t c x (.o i):=λ{s1} L h3 k go=>by
    obtain ⟨q',n,h',el⟩:=L
    have L:=nJ (deed:=enc e) (sort:=gC) (m:=bW e) (n:=n) (q:=q') h3
    refine ⟨s1.laid (enc e) gC (bW e) q' n,[bW e],go _ el,(L.ext (N:=[bW t,bW e]) (bB _ aF) ?_)⟩
    by_cases hh:c∈f.key.2
    ·exact .inr (.set (bB _ aF) T O (H5 h hq hh ht))
    ·exact .inl (sW h3.2.1 (h' (k hh)))
   let A:List (Fact (d+3))->List (Fact (d+3)):=λr=>.d (bN q0).2:: .g (nj (R f s) (.o i)):: .s 1 1:: .q 1 (yC f.gK c)::r
   cases q2:f.gK.has c with
   | true=>cases x with
    | some w=>
     obtain ⟨r,hr1,hr2,hr3,hr4⟩:=Sl (H:=f.gK) h hq
     obtain ⟨s',es,L⟩:=iO (d:=d) (sort:=gv) (K:=bV t) (a:=aV t) (ks:=(kf t).enc) (fl:=Mw t) (m:=bW t) X B
     exact ⟨s',[bW t],run (A [.d q2,.g es]),L.ext aF (.inr (show GB f [bW t,bW e] (.tup [enc t,.str gv])from hr2▸ .read hr1 (hr3▸aF) (hr4 q2)))⟩
    | none=>exact lay (zX X.key b1 b2 i c) (f5 (s:=s)) (λhc=>xF hc (rg _ c)) λs' el=>run (A [.d q2,.s 0 3,.v 0 (ni i),.g el])
   | false=>cases x with
    | some w=>exact lay (zW X.key b1 b2 i c w) (f5 (s:=s)) (λhc=>xF hc (yE _ _ c)) λs' el=>run (A [.d q2,.s 0 3,.v 0 (ni i),.g el])
    | none=>exact lay (zX X.key b1 b2 i c) (f5 (s:=s)) (λhc=>xF hc (rg _ c)) λs' el=>run (A [.d q2,.s 0 3,.v 0 (ni i),.g el])
  ·cases q2:v.null with
   | true=>exact ⟨{s with off:=.t},[],run [.d (bN q0).2,.g (nb q2 (R f s))],Ext.off.mono .zero⟩
   | false=>exact ⟨s,[],run [.d (bN q0).2,.g (nb q2 (R f s)),.d o,.d o],Ext.refl.mono .zero⟩
end
noncomputable def nw:E->List Nat
 | .mem _ _ _ n=>[n]
 | .idx _ _ _ n=>[n]
 | _=>[]
noncomputable def w1(n:Nat):Wt:=⟨[n],[],2⟩
noncomputable def wm(m:Nat):Wt:=⟨[],[m],1⟩
noncomputable def wd(n:Nat):Wt:=⟨[n],[],1⟩
noncomputable def w2(t:E)(n:Nat):Wt:=⟨nw t++[n],[],2⟩
noncomputable def OU(t:E):Wt:=⟨nw t,[],2⟩
noncomputable def sw:Option Nat->Wt | none=>w0 | some m=>w1 m
noncomputable def Ak.w(k:Ak)(x y:Wt):Wt:=match k with
 | .zero=>w0
 | .one s=>x.add (sw s)
 | .two s t=>(x.add (sw s)).add (y.add (sw t))
noncomputable def Pk.w(k:Pk)(t:E)(x y:Wt)(n:Nat):Wt:=match k with
 | .op _=>x.add ((OU t).add (y.add ((w2 t n).add (wd n))))
 | .p4 _ p=>y.add ((x.add ((w1 p).add (w2 t n))).add (wd n))
 | .p5 _ _ _ p=>y.add (((x.add ((w1 p).add (w2 t n))).add ((w1 p).add (w1 n))).add (wd n))
 | .p6 _ _=>y.add ((x.add (w2 t n)).add (wd n))
noncomputable def xw:E->Wt
 | .nm _ _=>w0 | .this _=>w0 | .num _ _=>w0
 | .wr _ e _=>xw e
 | .mem _ _ e n=>((xw e).add (wm (bW e))).add (w1 n)
 | .idx _ _ e n=>((xw e).add (wm (bW e))).add (w1 n)
 | .call _ _ k f p q _ n=>((xw f).add (wm (bW f))).add ((k.w (xw p) (xw q)).add (w1 n))
 | .asg k t v n=>k.w t (xw t) (xw v) n
 | .un .del e n=>(xw e).add (w2 (jc e) n)
 | .un _ e _=>xw e
 | .upd _ t n=>(xw t).add ((OU t).add (w2 t n))
 | .fn _ _ _=>w0
 | .cls _ _ _ _ _=>w0
 | .bin _ p q _=>(xw p).add (xw q)
 | .pick p q r _=>(xw p).add ((xw q).add (xw r))
noncomputable def Pre(F:Nat)(O ds:List Nat):Prop:=∀p q,ds=p++F::q->∀x∈p,x∈O
theorem Pre.of{F:Nat}{O ds:List Nat}(h:∀x∈ds,x∈O):Pre F O ds:=λp q e x hx=>h x (e▸cu _ hx)
theorem Pre.app{F:Nat}{O ds ds':List Nat}(h:Pre F O ds)(hn:F∉ds'):Pre F O (ds++ds'):=λp q e x hx=>by
 rcases List.append_eq_append_iff.mp e with ⟨a,e1,e2⟩ | ⟨a,e1,e2⟩
 ·exact absurd (e2▸c6 _ aF) hn
 ·cases a with
  | nil=>exact absurd (e2▸aF:F∈[]++ds') hn
  | cons y a=>exact h p a ((List.cons.inj e2).1▸e1) x hx
noncomputable def Sp(e:E)(ds:List Nat):Prop:=∀F,h9 e=some F->Pre (bW F) (dn F) ds
noncomputable def Hf(e:E)(s:Vs):Prop:=∀x∈holds e,cU s.met (x.2:Int)=some (.bool false)
noncomputable def Co(f:Fx)(s:Vs)(x:aa)(v:V)(s':Vs):Gl:=cl F.fB [W,x] (R f s) (v.enc,R f s')
structure W5(f:Fx)(e:E)(d:Nat)(s:Vs)(v:V)(s':Vs)(ds:List Nat):Prop where
 run:(Co f s (enc e) v s').ok d
 ext:Ext f (xw e) s s' ds
 sp:Sp e ds
 off:s'.off= .z->s.off= .z
 hf:s'.off= .z->v≠ .u true->Hf e s'
inductive AF(f:Fx)(e:E)(d:Nat)(s:Vs):Prop | mk (v:V) (s':Vs) (ds:List Nat):W5 f e d s v s' ds->AF f e d s
noncomputable def dW(f:Fx)(e:E):Prop:=∀d s,4 * dep e + 8<=d->Bd (xw e).c s->AF f e d s
theorem Hf.of{e:E}{s:Vs}(h:holds e=[]):Hf e s:=λx hx=>nomatch (h▸hx:x∈([]:List (Option Path×Nat)))
theorem Sp.of{e:E}(h:h9 e=none){ds:List Nat}:Sp e ds:=λF hF=>nomatch h.symm.trans hF
theorem Sp.nil{e:E}:Sp e []:=λF _=>Pre.of λ_ h=>nomatch h
section
variable{d:Nat}{f:Fx}{s:Vs}{e t:E}
theorem Wt.le.z{x:Wt}:(x.add w0).le x:=⟨λ_ h=>(cY x.N)▸h,λ_ h=>(cY x.I)▸h,aO _⟩
theorem Ext.t0{x:Wt}{s1 s2:Vs}{ds:List Nat}(h:Ext f x s s1 ds)(k:Ext f w0 s1 s2 []):Ext f x s s2 ds:=cY ds▸(h.trans k).mono .z
theorem i6{κ:Type} [DecidableEq κ]{l:List (κ×aa)}{m:κ}{x:aa}:i7 (i5 l m x) m=some x:=by
 induction l with
 | nil=>exact if_pos rfl
 | cons p l ih=>
  unfold i5
  by_cases h:p.1=m
  ·rw [if_pos h];exact if_pos h
  ·rw [if_neg h];exact (if_neg h).trans ih
theorem uk{κ:Type} [DecidableEq κ]{l:List (κ×aa)}{m m':κ}{x:aa}(h:m'≠m):i7 (i5 l m x) m'=i7 l m':=by
 induction l with
 | nil=>exact if_neg λe=>h e.symm
 | cons p l ih=>
  unfold i5
  by_cases hk:p.1=m
  ·rw [if_pos hk];exact (if_neg λe=>h (e.symm.trans hk)).trans (if_neg λe=>h (e.symm.trans hk)).symm
  ·rw [if_neg hk]
   show (if p.1=m' then _ else _)=(if p.1=m' then _ else _)
   rw [ih]
theorem nK{κ:Type} [DecidableEq κ]{l:List (κ×aa)}{m:κ}{x:aa}:(i5 l m x).length<=l.length + 1:=by
 induction l with
 | nil=>exact aO _
 | cons p l ih=>
  unfold i5
  by_cases h:p.1=m
  ·rw [if_pos h];exact dJ _
  ·rw [if_neg h];exact ee ih
theorem zT{m:Nat}{b:aa}{q:Of}:Ext f (wm m) s {s with met:=kJ s.met (m:Int) b,off:=q} []:=
 ⟨(cY _).symm,(λ_ h=>nomatch h),⟨[],(cY _).symm,(λ_ h=>nomatch h)⟩,λk h=>uk λe=>h (Int.ofNat.inj e▸aF),dB nK _⟩
theorem Ax{o:Bool}{m:Nat}{v:V}:Ext f (wm m) s (jJ s o m v) []:=by
 unfold jJ
 cases s.off.n==0&&o with
 | false=>exact Ext.refl.mono .zero
 | true=>cases v.null with
  | true=>exact zT
  | false=>exact zT
theorem xf{o:Bool}{m:Nat}{v:V}(h:(jJ s o m v).off= .z):(o=true->cU (jJ s o m v).met (m:Int)=some (.bool false))/\∀k:Int,cU s.met k=some (.bool false)->cU (jJ s o m v).met k=some (.bool false):=by
 have hz:=SO (ve s o m v h)
 revert h
 unfold jJ;rw [hz]
 cases o with
 | false=>exact λ_=>⟨(λh=>nomatch h),λ_ h=>h⟩
 | true=>cases v.null with
  | true=>exact λh=>nomatch h
  | false=>exact λ_=>⟨λ_=>i6,λk hk=>by
    by_cases e:k=(m:Int)
    ·exact e▸i6
    ·exact (uk e).trans hk⟩
theorem Mo(q:(s.off.n==0)=false)(e:E):AF f e d s:=
 ⟨.k 1,s,[],run [.d (rV q).2],Ext.refl.mono .zero,.nil,id,λh=>absurd h (rV q).1⟩
theorem lW{W:Wt}(h:(s.off.n==0)=true->Bd W.c s->AF f e d s)(B:Bd W.c s):AF f e d s:=by
 cases q:s.off.n==0 with
 | true=>exact h q B
 | false=>exact Mo q e
theorem RH(h1:h9 e=none)(h2:holds e=[]){v:V}(h:(Co f s (enc e) v s).ok d):AF f e d s:=⟨v,s,[],h,Ext.refl.mono .zero,.of h1,id,λ_ _=>.of h2⟩
noncomputable def qg(f:Fx)(s:Vs)(t:E)(x:aa)(s':Vs):Gl:=cl F.iW [W,enc t] (R f s) (x,R f s')
theorem tV{u:Nt}{n:Nat}(O:cU f.u (n:Int)=u.Ci):(qg f s (.nm u n) (.tup [enc (.nm u n),.none,.str u.rs]) s).ok d:=by
 have g:=Ms (h:=R f s) (u:=f.u) rfl (.int 0) O
 cases u <;> exact run [.w 3 g]
theorem JL{u:Nt}{n:Nat}(O:cU f.u (n:Int)=u.Ci):∃v,(Co f s (enc (.nm u n)) v s).ok (d+2):=by
 obtain ⟨v,er⟩:=sL (d:=d) (f:=f) (s:=s) (u:=u) (x:=enc (.nm u n))
 cases q:s.off.n==0 with
 | true=>exact ⟨v,run [.d (bN q).2,.g (tV (s:=s) O),.g er]⟩
 | false=>exact ⟨.k 1,run [.d (rV q).2]⟩
theorem JW{x d:Nat}(hd:4 * (x + 1) + 8<=d):∃d',d=d' + 4/\4 * x + 8<=d':=⟨d - 4,(Nat.sub_add_cancel (ai (by lia) hd)).symm,Nat.le_sub_of_add_le hd⟩
theorem Ir{a b d:Nat}(h:a<=b)(hd:4 * b + 8<=d):4 * a + 8<=d:=ai (gN (Nat.mul_le_mul_left 4 h) 8) hd
theorem Bd.sub{x y:Wt}(b:Bd y.c s)(h:x.le y):Bd x.c s:=b.le h.c
theorem Ql{k:Wk}{n:Nat}(G:dW f e):dW f (.wr k e n):=λd s hd B=>lW (W:=xw e) (λq B=>by
 obtain ⟨d,rfl,mR⟩:=JW hd
 obtain ⟨v,s1,ds,g⟩:=G (d+3) s (ai mR (aJ _ 3)) B
 cases k with
 | chain=>
  by_cases c:s1.off= .c
  ·have c1:(s1.off.n==2)=true:=by rw [c];rfl
   exact ⟨.u true,{s1 with off:=.z},ds,run [.d (bN q).2,.g g.run,.d c1],g.ext.t0 Ext.off,g.sp,λ_=>(bN q).1,λ_ h=>absurd rfl h⟩
  ·have c1:(s1.off.n==2)=false:=by cases h:s1.off <;> first | rfl | exact absurd h c
   exact ⟨v,s1,ds,run [.d (bN q).2,.g g.run,.d c1],g.ext,g.sp,g.off,g.hf⟩
 | _=>exact ⟨v,s1,ds,run [.d (bN q).2,.g g.run],g.ext,g.sp,g.off,g.hf⟩) B
end
structure Wt.on(x:Wt)(a b:List Nat):Prop where
 n:∀m∈x.N,m∈a
 i:∀m∈x.I,m∈b
section
variable{x y:Wt}{a a' b b':List Nat}{n:Nat}
theorem snoc:n∈a++[n]:=c6 _ aF
theorem Wt.on.add(h:x.on a b)(k:y.on a b):(x.add y).on a b:=⟨λm q=>(List.mem_append.mp q).elim (h.n m) (k.n m),λm q=>(List.mem_append.mp q).elim (h.i m) (k.i m)⟩
theorem Wt.on.j(h:x.on a b):x.on a (b++b'):=⟨h.n,λm q=>cu _ (h.i m q)⟩
theorem Wt.on.l(h:x.on a b):x.on (a++a') (b++b'):=⟨λm q=>cu _ (h.n m q),h.j.i⟩
theorem Wt.on.r(h:x.on a b):x.on (a'++a) (b'++b):=⟨λm q=>c6 _ (h.n m q),λm q=>c6 _ (h.i m q)⟩
theorem Lk:w0.on a b:=⟨(λ_ h=>nomatch h),λ_ h=>nomatch h⟩
theorem vp{c:Nat}{N:List Nat}(h:∀m∈N,m∈a):(⟨N,[],c⟩:Wt).on a b:=⟨h,λ_ h=>nomatch h⟩
theorem NR(h:n∈a):(w1 n).on a b:=vp (bt h)
theorem SJ(h:n∈b):(wm n).on a b:=⟨(λ_ h=>nomatch h),bt h⟩
theorem Rz(h:n∈a):(wd n).on a b:=vp (bt h)
theorem SI{s:Option Nat}:(sw s).on s.toList b:=match s with
 | none=>Lk
 | some m=>NR aF
theorem SN{t:E}(h:∀m∈nw t,m∈a)(k:n∈a):(w2 t n).on a b:=vp λm q=>(List.mem_append.mp q).elim (h m) (bt k m)
end
theorem k8(e:E):bW e∈all e:=by
 cases e with
 | nm=>exact aF
 | this=>exact aF
 | num=>exact aF
 | call=>exact c6 _ (c6 _ snoc)
 | asg=>exact c6 _ (c6 _ snoc)
 | bin=>exact c6 _ snoc
 | pick=>exact c6 _ (c6 _ snoc)
 | _=>exact snoc
theorem HY(e:E):∀m,m∈all (jc e)->m∈all e:=by
 induction e with
 | wr k e n ih=>exact λm h=>cu _ (ih m h)
 | _=>exact λ_=>id
theorem Mc(e:E):dn (jc e)=dn e:=by
 induction e with
 | wr k e n ih=>exact ih
 | _=>rfl
theorem zO(t:E):∀m∈nw t,m∈dn t:=by
 cases t with
 | mem=>exact bt snoc
 | idx=>exact bt snoc
 | _=>exact λm h=>nomatch h
theorem Gd{a b a' b':List Nat}(h:∀m∈a,m∈a')(k:∀m∈b,m∈b'):∀m∈a++b,m∈a'++b':=λm q=>(List.mem_append.mp q).elim (λq=>cu _ (h m q)) λq=>c6 _ (k m q)
theorem MJ(e:E):∀m∈dn e,m∈all e:=by
 have no:∀{l:List Nat},∀m∈[],m∈l:=λ_ h=>nomatch h
 have id':∀{l:List Nat},∀m∈l,m∈l:=λ_ h=>h
 have l:∀{a b c:List Nat},(∀m∈a,m∈b)->∀m∈a,m∈b++c:=λh m q=>cu _ (h m q)
 induction e with
 | nm=>exact no
 | this=>exact no
 | num=>exact no
 | fn=>exact no
 | wr k e n i=>exact l i
 | cls e m f r n i=>exact l i
 | call w o k f p q m n i1 i2 i3=>
  refine Gd i1 (Gd ?_ id')
  cases k with
  | zero=>exact no
  | one s=>exact i2
  | two s t=>exact Gd i2 i3
 | asg k t v n i1 i2=>exact Gd i1 (Gd i2 (Gd (by
   cases k with
   | op=>exact no
   | p5=>exact λm q=>bB _ q
   | _=>exact id') id'))
 | bin s p q n i1 i2=>exact Gd i1 (l i2)
 | pick p q r n i1 i2 i3=>exact Gd i1 (Gd i2 (l i3))
 | _=>exact Gd (by assumption) id'
theorem Jt{k:Ak}{x y:Wt}{a b a' b' c c':List Nat}(h1:x.on a b)(h2:y.on a' b'):(k.w x y).on (k.al a a'++(k.more++c)) (k.al b b'++(k.more++c')):=by
 cases k with
 | zero=>exact Lk
 | one s=>exact h1.l.add SI.l.r
 | two s t=>exact (h1.l.l.add SI.l.l.r).add (h2.r.l.add SI.r.l.r)
theorem vr(e:E):(xw e).on (dn e) (all e):=by
 induction e with
 | nm=>exact Lk
 | this=>exact Lk
 | num=>exact Lk
 | fn=>exact Lk
 | cls=>exact Lk
 | wr k e n ih=>exact ih.j
 | mem o c e n ih=>exact (ih.l.add (SJ (cu _ (k8 e)))).add (NR snoc)
 | idx o c e n ih=>exact (ih.l.add (SJ (cu _ (k8 e)))).add (NR snoc)
 | call w o k f p q m n i1 i2 i3=>
  exact (i1.l.add (SJ (cu _ (k8 f)))).add (.add (.r (Jt i2 i3)) (NR (c6 _ (c6 _ snoc))))
 | asg k t v n i1 i2=>
  have a1:=i1.l (a':=dn v++(k.marks++[n])) (b':=all v++(k.ids++[n]))
  have a2:=(i2.l (a':=k.marks++[n]) (b':=k.ids++[n])).r (a':=dn t) (b':=all t)
  have a3:n∈dn t++(dn v++(k.marks++[n])):=c6 _ (c6 _ snoc)
  have aw:∀m∈nw t,m∈dn t++(dn v++(k.marks++[n])):=λm h=>cu _ (zO t m h)
  have a4 {b}:=SN (b:=b) aw a3
  have a5:∀{p b},p∈k.marks->(w1 p).on (dn t++(dn v++(k.marks++[n]))) b:=λh=>NR (c6 _ (c6 _ (cu _ h)))
  cases k with
  | op o=>exact a1.add ((vp aw).add (a2.add (a4.add (Rz a3))))
  | p4 b p=>exact a2.add ((a1.add ((a5 aF).add a4)).add (Rz a3))
  | p5 b x c p=>exact a2.add (((a1.add ((a5 aF).add a4)).add ((a5 aF).add (NR a3))).add (Rz a3))
  | p6 b p=>exact a2.add ((a1.add a4).add (Rz a3))
 | un s e n ih=>
  cases s with
  | del=>exact ih.l.add (SN (λm h=>cu _ (Mc e▸zO _ m h)) snoc)
  | _=>exact ih.l
 | upd b t n ih=>exact ih.l.add ((vp λm h=>cu _ (zO t m h)).add (SN (λm h=>cu _ (zO t m h)) snoc))
 | bin s p q n i1 i2=>exact i1.l.add i2.j.r
 | pick p q r n i1 i2 i3=>exact i1.l.add (i2.l.r.add i3.j.r.r)
theorem cg{a b:List Nat}(h:(a++b).Nodup):a.Nodup/\b.Nodup/\∀x∈a,x∉b:=
 have h:=List.nodup_append.mp h
 ⟨h.1,h.2.1,λx hx hy=>h.2.2 x hx x hy rfl⟩
theorem GD(e:E):∀F,h9 e=some F->bW F∈all e:=by
 induction e with
 | wr k e n ih=>exact λF h=>cu _ (ih F h)
 | mem o c e n ih=>exact λF h=>cu _ (ih F h)
 | un s e n ih=>exact λF h=>cu _ (ih F h)
 | bin s p q n i1 i2=>cases s <;> first | exact λF h=>cu _ (i1 F h) | exact λF h=>nomatch h
 | asg k t v n=>exact λF h=>ay h▸k8 (.asg k t v n)
 | _=>exact λF h=>nomatch h
noncomputable def vn:E->Option (E×Bool)
 | .mem o _ e _=>some (e,o)
 | .idx o _ e _=>some (e,o)
 | _=>none
noncomputable def us(e:E):Wt:=(xw e).add (wm (bW e))
structure Vb(t e:E)(o:Bool):Prop where
 dep:dep t=dep e + 1
 xw:xw t=(us e).add (w1 (bW t))
 all:all t=all e++[bW t]
 h9:h9 t=none\/h9 t=h9 e
 holds:holds t=Cm o (aS e,bW e) (holds e)
theorem E.xD{P:E->E->Bool->Prop}(mem:∀o c e n,P (.mem o c e n) e o)(idx:∀o t e n,P (.idx o t e n) e o){t e:E}{o:Bool}(h:vn t=some (e,o)):P t e o:=by
 cases t with
 | mem=>cases h;exact mem _ _ _ _
 | idx=>cases h;exact idx _ _ _ _
 | _=>exact nomatch (show none=some (e,o)from h)
theorem zo{t e:E}{o:Bool}:vn t=some (e,o)->Vb t e o:=E.xD (P:=Vb) (λ_ _ _ _=>⟨rfl,rfl,rfl,.inr rfl,rfl⟩) λ_ _ _ _=>⟨rfl,rfl,rfl,.inl rfl,rfl⟩
structure WS(d:Nat)(f:Fx)(s:Vs)(t e:E)(v:V)(c:Nm)(s':Vs)(ds:List Nat):Prop where
 run:(qg f s t (.tup [enc t,v.enc,.str c.s]) s').ok d
 ext:Ext f (us e) s s' ds
 sp:Sp e ds
 nm:∃q,FW t=some q/\(q=none\/q=some c)
 hf:s'.off= .z->v.null=false->Hf t s'
inductive Rg(d:Nat)(f:Fx)(s:Vs)(t e:E):Prop | mk (v:V) (c:Nm) (s':Vs) (ds:List Nat):WS d f s t e v c s' ds->Rg d f s t e
section
variable{d:Nat}{f:Fx}{s:Vs}{t e:E}{o:Bool}
theorem Sp.app{p:E}{ds ds' b:List Nat}(he:h9 e=none\/h9 e=h9 p)(hp:Sp p ds)(hb:∀x∈all p,x∉b)(hd:∀m∈ds',m∈b):Sp e (ds++ds'):=
 he.elim (λh=>Sp.of h) λh F hF=>have q:=h.symm.trans hF;(hp F q).app λhm=>hb _ (GD p F q) (hd _ hm)
theorem V.snd(v:V):∃j:Int,∀h,aY h v.enc (.int 1)=some (.int j):=match v with
 | .o _=>⟨_,λ_=>rfl⟩
 | .n=>⟨_,λ_=>rfl⟩
 | .u _=>⟨_,λ_=>rfl⟩
 | .k _=>⟨_,λ_=>rfl⟩
theorem Ka(j:Int):∃c:Nm,∀h,aY h (.tup [.str fE,.str ou]) (.int (j % 2))=some (.str c.s):=(Int.emod_two_eq j).elim (λe=>⟨.a,λh=>by rw [e];rfl⟩) λe=>⟨.b,λh=>by rw [e];rfl⟩
theorem tU(G:dW f e)(hd:4 * dep e + 8<=d + 2)(B:Bd (us e).c s)(U:vn t=some (e,o)):UO f.u t->Rg (d+3) f s t e:=by
 obtain ⟨v,s1,ds,g⟩:=G (d+2) s hd B.l
 have B1:=g.ext.bd B
 have X:Ext f (us e) s (jJ s1 o (bW e) v) (ds++[]):=g.ext.trans Ax
 rw [cY]at X
 have H:(jJ s1 o (bW e) v).off= .z->v.null=false->Hf t (jJ s1 o (bW e) v):=λhz hn x hx=>by
  obtain ⟨k2,k3⟩:=xf hz
  have hb:∀x∈holds e,cU (jJ s1 o (bW e) v).met (x.2:Int)=some (.bool false):=λx hx=>k3 _ (g.hf (ve _ _ _ _ hz) (λq=>nomatch hn.symm.trans (congrArg V.null q)) x hx)
  rw [(zo U).holds]at hx
  cases o with
  | false=>exact hb x hx
  | true=>exact (List.mem_cons.mp hx).elim (λq=>q▸k2 rfl) (hb x)
 have mk:∀{c q},(qg f s t (.tup [enc t,v.enc,.str c.s]) (jJ s1 o (bW e) v)).ok (d+3)->FW t=some q->(q=none\/q=some c)->Rg (d+3) f s t e:=λr h1 h2=>⟨v,_,_,ds,r,X,g.sp,⟨_,h1,h2⟩,H⟩
 have r1:=g.run
 have r2:∀{k:Int} {a:aa} {r:List aa} {n:Nat},(FF f s1 k a e r o n v (jJ s1 o (bW e) v)).ok (d+2):=Aw B1 v
 revert mk r1 r2
 refine E.xD (P:=λt e o=>(∀{c q},(qg f s t (.tup [enc t,v.enc,.str c.s]) (jJ s1 o (bW e) v)).ok (d+3)->FW t=some q->(q=none\/q=some c)->Rg (d+3) f s t e)->(Co f s (enc e) v s1).ok (d+2)->(∀{k:Int} {a:aa} {r:List aa} {n:Nat},(FF f s1 k a e r o n v (jJ s1 o (bW e) v)).ok (d+2))->UO f.u t->Rg (d+3) f s t e) (λo c e n mk r1 r2 _=>mk (c:=c) (run [.g r1,.g (r2 (k:=16) (a:=.str c.s) (r:=[]) (n:=n))]) rfl (.inr rfl)) (λo t e n mk r1 r2 O=>?_) U
 cases t with
 | str c m=>exact mk (c:=c) (run [.g r1,.g (r2 (k:=17) (a:=aQ) (r:=[Ix.enc (.str c m)]) (n:=n))]) rfl (.inr rfl)
 | rO c m=>exact mk (c:=c) (run [.g r1,.g (r2 (k:=17) (a:=aQ) (r:=[Ix.enc (.rO c m)]) (n:=n))]) rfl (.inr rfl)
 | y m=>
  obtain ⟨w,ew⟩:=JL (d:=d) (f:=f) (s:=jJ s1 o (bW e) v) (u:=.y) (n:=m) (O (m,some (.int 2)) (c6 _ aF))
  obtain ⟨j,ej⟩:=w.snd
  obtain ⟨c,ec⟩:=Ka j
  exact mk (c:=c) (run [.g r1,.g (r2 (k:=17) (a:=aQ) (r:=[Ix.enc (.y m)]) (n:=n)),.g ew,.v 0 ej,.v 0 ec]) rfl (.inl rfl)
end
section
variable{d:Nat}{f:Fx}{s s1 s2:Vs}{t e p q r:E}{o:Bool}{v v' w:V}{n:Nat}
theorem Mm{c:Nm}(z:(s.off.n==0)=true)(U:vn t=some (e,o)):(qg f s t (.tup [enc t,v.enc,.str c.s]) s1).ok (d+3)->(vO f s1 (enc t) v.enc c.s v' s2).ok (d+3)->(Co f s (enc t) v' s2).ok (d+4):=
 E.xD (P:=λt _ _=>(qg f s t (.tup [enc t,v.enc,.str c.s]) s1).ok (d+3)->(vO f s1 (enc t) v.enc c.s v' s2).ok (d+3)->(Co f s (enc t) v' s2).ok (d+4))
  (λ_ _ _ _ a b=>run [.d (bN z).2,.g a,.g b]) (λ_ _ _ _ a b=>run [.d (bN z).2,.g a,.g b]) U
theorem JM(X:Cx f)(U:vn t=some (e,o))(G:dW f e)(O:UO f.u t)(hN:(all t).Nodup):dW f t:=λd s hd B=>lW (λz B=>by
 have u:=zo U
 obtain ⟨d,rfl,mR⟩:=JW (u.dep▸hd)
 have B:Bd ((us e).add (w1 (bW t))).c s:=u.xw▸B
 obtain ⟨v,c,s1,ds,g⟩:=tU (d:=d) G (ai mR (aJ _ 2)) B.l U O
 obtain ⟨_,t1,t2⟩:=g.nm
 obtain ⟨r,r1,r2,r3,r4⟩:=Sl (H:=f.gK) t1 t2
 obtain ⟨v',s2,ds2,e2,x2,m2,o1,o2⟩:=qp (d:=d) X (g.ext.bd B) r1 v c r4
 rw [r2]at e2
 have x2:Ext f (w1 (bW t)) s1 s2 ds2:=r3▸x2
 refine ⟨v',s2,ds++ds2,Mm z U g.run e2,u.xw▸g.ext.trans x2,.app u.h9 g.sp (cg (u.all▸hN)).2.2 x2.mem,λ_=>(bN z).1,λhz2 _ x hx=>?_⟩
 have z1:s1.off= .z:=Classical.byContradiction λc=>c (o1 c▸hz2)
 have hn:v.null=false:=Bool.eq_false_iff.mpr λq=>nomatch hz2.symm.trans ((o2 z1).trans (congrArg (λb=>bif b then Of.t else .z) q))
 exact (congrArg (cU · _) m2).trans (g.hf z1 hn x hx)) B
theorem AF.Jo(h1:h9 e=none)(h2:holds e=[])(z:(s.off.n==0)=true){ds:List Nat}(run:(Co f s (enc e) v s1).ok d)(ext:Ext f (xw e) s s1 ds):AF f e d s:=⟨v,s1,ds,run,ext,.of h1,λ_=>(bN z).1,λ_ _=>.of h2⟩
theorem sb{g:NZ}{b:Bool}(q:v.lM g=b)(h:Hp):(cl F.eB [.str g.s,v.enc] h (.bool b,h)).ok (d+1):=q▸mV h g v
theorem Mq{b:Bs}(G1:dW f p)(G2:dW f q)(hN:(all (.bin b p q n)).Nodup):dW f (.bin b p q n):=λd s hd B=>lW (λz B=>by
 obtain ⟨d,rfl,mR⟩:=JW (x:=max (dep p) (dep q)) hd
 obtain ⟨v,s1,ds,g⟩:=G1 (d+3) s (ai (Ir (Nat.le_max_left _ _) mR) (aJ _ 3)) B.l
 obtain ⟨w,s2,ds2,k⟩:=G2 (d+3) s1 (ai (Ir (Nat.le_max_right _ _) mR) (aJ _ 3)) (g.ext.bd B)
 have S0:h9 (.bin b p q n)=none\/h9 (.bin b p q n)=h9 p:=by cases b <;> first | exact .inr rfl | exact .inl rfl
 have m1:(Co f s (enc (.bin b p q n)) v s1).ok (d+4)->AF f (.bin b p q n) (d+4) s:=λr=>⟨v,s1,ds,r,g.ext.mono .l,S0.elim (λh=>.of h) λh F hF=>g.sp F (h.symm.trans hF),λ_=>(bN z).1,λ_ _=>.of rfl⟩
 have m2:∀w,(Co f s (enc (.bin b p q n)) w s2).ok (d+4)->AF f (.bin b p q n) (d+4) s:=λw r=>⟨w,s2,ds++ds2,r,g.ext.trans k.ext,.app S0 g.sp (cg hN).2.2 λm h=>cu _ (MJ q m ((vr q).n m (k.ext.mem m h))),λ_=>(bN z).1,λ_ _=>.of rfl⟩
 have g:=g.run
 have k:=k.run
 cases b with
 | eq=>cases j:uU v.enc w.enc with
  | true=>exact m2 (.k 1) (run [.d (bN z).2,.g g,.g k,.s 110 1,.d j])
  | false=>exact m2 (.k 0) (run [.d (bN z).2,.g g,.g k,.s 110 1,.d j])
 | plus=>cases j:uU v.enc w.enc with
  | true=>exact m2 (.k 1) (run [.d (bN z).2,.g g,.g k,.s 110 1,.d j])
  | false=>exact m2 (.k 0) (run [.d (bN z).2,.g g,.g k,.s 110 1,.d j])
 | and=>cases j:v.lM .and with
  | true=>exact m1 (run [.d (bN z).2,.g g,.g (sb j (R f s1))])
  | false=>exact m2 w (run [.d (bN z).2,.g g,.g (sb j (R f s1)),.g k])
 | or=>cases j:v.lM .or with
  | true=>exact m1 (run [.d (bN z).2,.g g,.g (sb j (R f s1))])
  | false=>exact m2 w (run [.d (bN z).2,.g g,.g (sb j (R f s1)),.g k])
 | nul=>cases j:v.lM .nul with
  | true=>exact m1 (run [.d (bN z).2,.g g,.g (sb j (R f s1))])
  | false=>exact m2 w (run [.d (bN z).2,.g g,.g (sb j (R f s1)),.g k])) B
theorem Ib(G1:dW f p)(G2:dW f q)(G3:dW f r):dW f (.pick p q r n):=λd s hd B=>lW (λz B=>by
 obtain ⟨d,rfl,mR⟩:=JW (x:=max (dep p) (max (dep q) (dep r))) hd
 have hd2:=Ir (Nat.le_max_right _ _) mR
 have up:∀{x},x<=d->x<=d + 3:=λh=>ai h (aJ _ 3)
 obtain ⟨v,s1,ds,g⟩:=G1 (d+3) s (up (Ir (Nat.le_max_left _ _) mR)) B.l
 have B1:=g.ext.bd B
 cases j:v.lM .or with
 | true=>
  obtain ⟨w,s2,ds2,k⟩:=G2 (d+3) s1 (up (Ir (Nat.le_max_left _ _) hd2)) B1.l
  exact .Jo (v:=w) rfl rfl z (run [.d (bN z).2,.g g.run,.g (sb j (R f s1)),.g k.run]) (g.ext.trans (k.ext.mono .l))
 | false=>
  obtain ⟨w,s2,ds2,k⟩:=G3 (d+3) s1 (up (Ir (Nat.le_max_right _ _) hd2)) (B1.sub .r)
  exact .Jo (v:=w) rfl rfl z (run [.d (bN z).2,.g g.run,.g (sb j (R f s1)),.g k.run]) (g.ext.trans (k.ext.mono .r))) B
noncomputable def JE:Us->Bool | .del=>true | _=>false
theorem Qm{g:Us}(hg:JE g=false)(G:dW f e):dW f (.un g e n):=λd s hd B=>lW (λz B=>by
 obtain ⟨d,rfl,mR⟩:=JW (x:=dep e) hd
 have mk:xw (.un g e n)=xw e:=by cases g <;> first | rfl | exact nomatch hg
 rw [mk]at B
 obtain ⟨v,s1,ds,g'⟩:=G (d+2) s (ai mR (aJ _ 2)) B
 have mk:∀j,(Co f s (enc (.un g e n)) (.k j) s1).ok (d+4)->AF f (.un g e n) (d+4) s:=λj r=>⟨.k j,s1,ds,r,mk▸g'.ext,g'.sp,λ_=>(bN z).1,λ_ _=>.of rfl⟩
 have r1:=g'.run
 cases g with
 | del=>exact nomatch hg
 | not=>cases j:v.lM .or with
  | true=>exact mk 0 (run [.d (bN z).2,.g (show (cl F.fS [W,enc (.un .not e n)] (R f s) (V.enc (.k 0),R f s1)).ok (d+3)from run [.g r1,.g (sb j (R f s1))])])
  | false=>exact mk 1 (run [.d (bN z).2,.g (show (cl F.fS [W,enc (.un .not e n)] (R f s) (V.enc (.k 1),R f s1)).ok (d+3)from run [.g r1,.g (sb j (R f s1))])])
 | typ=>exact mk 1 (run [.d (bN z).2,.g (show (cl F.fS [W,enc (.un .typ e n)] (R f s) (V.enc (.k 1),R f s1)).ok (d+3)from run [.g r1])])
 | neg=>exact mk 1 (run [.d (bN z).2,.g (show (cl F.fS [W,enc (.un .neg e n)] (R f s) (V.enc (.k 1),R f s1)).ok (d+3)from run [.g r1])])) B
theorem JN(h0:xw e=w0)(h1:h9 e=none)(h2:holds e=[])(k:∀d s,(s.off.n==0)=true->∃v,(Co f s (enc e) v s).ok (d+8)):dW f e:=λd s hd B=>lW (λz B=>by
 obtain ⟨d,rfl⟩:∃d',d=d' + 8:=⟨d - 8,(Nat.sub_add_cancel (ai (hX _ _) hd)).symm⟩
 obtain ⟨v,r⟩:=k d s z
 exact .Jo h1 h2 z r (h0▸Ext.refl)) B
end
inductive NY(t:E):aa->Sx->Prop
 | nm {u m r}:t= .nm u m->Er u=some r->NY t .none u.rs
 | ob {v:V} {c:Nm} {q}:FW t=some q->(q=none\/q=some c)->NY t v.enc c.s
inductive RZ(d:Nat)(f:Fx)(s:Vs)(t:E):Prop | mk (b:aa) (c:Sx) (s':Vs) (ds:List Nat):(qg f s t (.tup [enc t,b,.str c]) s').ok d->Ext f (xw t) s s' ds->NY t b c->RZ d f s t
inductive Vi(d:Nat)(f:Fx)(s:Vs)(t:E)(b:aa)(c:Sx):Prop | mk (v:V) (s':Vs) (ds:List Nat):(vO f s (enc t) b c v s').ok d->Ext f (OU t) s s' ds->Vi d f s t b c
inductive T1(d:Nat)(f:Fx)(s:Vs)(t e:E)(b:aa)(c:Sx)(v:V):Prop | mk (s':Vs) (ds:List Nat):(qa f s (enc e) (enc t) b c v.enc s').ok d->Ext f (w2 t (bW e)) s s' ds->T1 d f s t e b c v
theorem E.Oo{P:E->Prop}(nm:∀u m r,Er u=some r->P (.nm u m))(un:∀t e o,vn t=some (e,o)->P t){t:E}(h:eN t=true):P t:=by
 cases t with
 | nm u m=>cases u <;> first | exact nm _ _ _ rfl | exact nomatch h
 | mem=>exact un _ _ _ rfl
 | idx=>exact un _ _ _ rfl
 | _=>exact nomatch h
section
variable{d:Nat}{f:Fx}{s s1 s2:Vs}{t e v:E}{b:aa}{c:Sx}{n:Nat}
theorem CT(ht:eN t=true)(G:∀e o,vn t=some (e,o)->dW f e)(O:UO f.u t)(hd:4 * dep t + 8<=d + 6)(B:Bd (xw t).c s):RZ (d+3) f s t:=by
 revert G O hd B
 refine E.Oo (P:=λt=>(∀e o,vn t=some (e,o)->dW f e)->UO f.u t->4 * dep t + 8<=d + 6->Bd (xw t).c s->RZ (d+3) f s t) (λu m r h _ O _ _=>⟨_,_,s,[],tV (O _ aF),Ext.refl,.nm rfl h⟩) (λt e o h G O hd B=>?_) ht
 have u:=zo h
 obtain ⟨v,c,s1,ds,g⟩:=tU (d:=d) (G e o h) (Nat.le_of_add_le_add_right (b:=4) (show 4 * (dep e + 1) + 8<=d + 2 + 4 from u.dep▸hd)) (u.xw▸B).l h O
 obtain ⟨q,h1,h2⟩:=g.nm
 exact ⟨_,_,s1,ds,g.run,u.xw▸g.ext.mono .l,.ob h1 h2⟩
theorem xJ{q:Option Nm}(h:FW t=some q):nw t=[bW t]:=E.mh (P:=λt _=>nw t=[bW t]) (λ_ _ _ _=>rfl) (λ_ _ _ _=>rfl) h
theorem Jg(X:Cx f)(B:Bd n s)(h:NY t b c):Vi (d+3) f s t b c:=by
 cases h with
 | nm ht hr=>
  obtain ⟨v,e⟩:=sL (d:=d+2) (f:=f) (s:=s)
  exact ⟨v,s,[],e,Ext.refl.mono .zero⟩
 | @ob v c q h1 h2=>
  obtain ⟨r,r1,r2,r3,r4⟩:=Sl (H:=f.gK) h1 h2
  obtain ⟨v',s2,ds2,e2,x2⟩:=qp (d:=d) X B r1 v c r4
  exact ⟨v',s2,ds2,r2▸e2,by unfold OU;rw [xJ h1];exact r3▸x2⟩
theorem p9(X:Cx f)(B:Bd n s)(h:NY t b c)(ht:t∈fM e)(T:lC e)(O:Ok f.u e)(v:V):T1 (d+3) f s t e b c v:=by
 cases h with
 | nm h1 hr=>
  subst h1
  obtain ⟨s',ds,e1,x1⟩:=p8 (d:=d) X B hr ht T O v
  exact ⟨s',ds,e1,x1⟩
 | @ob w c q h1 h2=>
  obtain ⟨s',ds,e1,x1⟩:=so (d:=d) X B h1 h2 ht T O w (some v)
  exact ⟨s',ds,e1,by unfold w2;rw [xJ h1];exact x1⟩
theorem Ml(X:Cx f){b:Bool}(T:lC (.upd b t n))(G:∀e o,vn t=some (e,o)->dW f e)(O:Ok f.u (.upd b t n)):dW f (.upd b t n):=λd s hd B=>lW (λz B=>by
 obtain ⟨d,rfl,mR⟩:=JW (x:=dep t) hd
 obtain ⟨b,c,s1,ds1,r1,x1,sp⟩:=CT (d:=d) (T.2 t aF) G O.1 (ai mR (aJ _ 6)) B.l
 have B1:=x1.bd B
 obtain ⟨v,s2,ds2,r2,x2⟩:=Jg (d:=d) X B1 sp
 obtain ⟨s3,ds3,r3,x3⟩:=p9 (d:=d) X (x2.bd B1) sp aF T O (.k 1)
 exact .Jo (v:=.k 1) rfl rfl z (run [.d (bN z).2,.g r1,.g r2,.g r3]) (x1.trans (x2.trans x3))) B
noncomputable def Iw(x v2 y:aa)(b:Bool)(n:Nat)(h:Hp)(r:aa×Hp):Gl:=lo 3 jI n [W,x,v2,y,.bool b] h r
noncomputable def Iv(x v2 y:aa)(b:Bool)(h:Hp)(r:aa×Hp):Gl:=bo (jI.drop 4) [W,x,v2,y,.bool b] h r
noncomputable def W7(d:Nat)(x v2:aa)(h:Hp)(e:E):Prop:=(obj e).isSome=true->∀n b,∃b',∀r,(Iv x v2 (enc (jc e)) b' h r).ok d->(Iw x v2 (enc e) b (n + pl e) h r).ok d
theorem ML{x v2:aa}{h:Hp}(e:E):W7 d x v2 h e:=by
 induction e with
 | wr k e m ih=>
  cases k with
  | chain=>exact λo n b=>(ih o n true).imp λb' K r q=>by cases b <;> exact run [.l (K r q)]
  | _=>exact λo n b=>(ih o n b).imp λb' K r q=>by cases b <;> exact run [.l (K r q)]
 | mem o c e m ih=>exact λ_ n b=>⟨b,λr q=>(show (Iw x v2 (enc (.mem o c e m)) b (n + pl e + 1) h r).val d=(Iv x v2 (enc (.mem o c e m)) b h r).val d by kernel_rfl).trans q⟩
 | idx o c e m ih=>exact λ_ n b=>⟨b,λr q=>(show (Iw x v2 (enc (.idx o c e m)) b (n + pl e + 1) h r).val d=(Iv x v2 (enc (.idx o c e m)) b h r).val d by kernel_rfl).trans q⟩
 | _=>exact λo=>nomatch o
structure WY(e:E):Prop where
 dep:dep (jc e)<=dep e
 h9:h9 (jc e)=h9 e
 xw:xw (jc e)=xw e
 nd:(all e).Nodup->(all (jc e)).Nodup
 obj:(obj e).isSome=true->∃e' o,vn (jc e)=some (e',o)
theorem P9(e:E):WY e:=by
 induction e with
 | wr k e m ih=>exact ⟨Nat.le_succ_of_le ih.dep,ih.h9,ih.xw,λh=>ih.nd (cg h).1,ih.obj⟩
 | mem=>exact ⟨aO _,rfl,rfl,id,λ_=>⟨_,_,rfl⟩⟩
 | idx=>exact ⟨aO _,rfl,rfl,id,λ_=>⟨_,_,rfl⟩⟩
 | _=>exact ⟨aO _,rfl,rfl,id,λh=>nomatch h⟩
theorem Wt.le.ad{x y z w:Wt}(h:x.le y)(k:z.le w):(x.add z).le (y.add w):=
 ⟨λm q=>(List.mem_append.mp q).elim (λq=>cu _ (h.n m q)) λq=>c6 _ (k.n m q),λm q=>(List.mem_append.mp q).elim (λq=>cu _ (h.i m q)) λq=>c6 _ (k.i m q),eX h.c k.c⟩
theorem Mp(X:Cx f)(T:lC (.un .del e n))(ho:(obj e).isSome=true)(G:∀e' o,vn (jc e)=some (e',o)->dW f e')(O:Ok f.u (.un .del e n))(hN:(all (.un .del e n)).Nodup):dW f (.un .del e n):=λd s hd B=>lW (W:=(xw e).add (w2 (jc e) n)) (λz B=>by
 obtain ⟨d,rfl,fG⟩:=JW (x:=dep e) hd
 have I:=P9 e
 obtain ⟨e',o,hu⟩:=I.obj ho
 have u:=zo hu
 obtain ⟨d,rfl,hd2⟩:=JW (x:=dep e') (ai (u.dep▸gN (Nat.mul_le_mul_left 4 I.dep) 8) fG)
 have hx:xw e=(us e').add (w1 (bW (jc e))):=I.xw.symm.trans u.xw
 obtain ⟨v,c,s1,ds1,g⟩:=tU (d:=d+3) (s:=s) (G e' o hu) (ai hd2 (aJ _ 5)) (hx▸B).l.l hu O.un.jc.1
 obtain ⟨_,t1,t2⟩:=g.nm
 have B1:=g.ext.bd (show Bd ((us e').c + 0) s from (hx▸B).l.l)
 obtain ⟨s2,ds2,r2,x2⟩:=so (d:=d+3) X B1 (e:=.un .del e n) t1 t2 aF T O v none
 obtain ⟨b,k⟩:=ML (d:=d+7) (x:=enc (.un .del e n)) (v2:=.undef) (h:=R f s) e ho (1048575 - pl e) false
 have Y:Ext f ((xw e).add (w2 (jc e) n)) s s2 (ds1++ds2):=(g.ext.trans x2).mono (.ad (hx▸ .l) (by unfold w2;rw [xJ t1];exact .rf))
 have N1:=cg (u.all▸I.nd (cg hN).1)
 have P:Sp (.un .del e n) (ds1++ds2):=.app (b:=[bW (jc e),n]) (u.h9.imp I.h9.symm.trans I.h9.symm.trans) g.sp (λm hm q=>(List.mem_cons.mp q).elim (λq=>N1.2.2 m hm (q▸aF)) λq=>(cg hN).2.2 m (HY e m (u.all▸cu _ hm)) q) x2.mem
 have fin:∀s3,Ext f w0 s2 s3 []->(Iv (enc (.un .del e n)) .undef (enc (jc e)) b (R f s) (V.enc (.k 1),R f s3)).ok (d+7)->AF f (.un .del e n) (d+8) s:=λs3 x3 q=>by
  have l:(Iw (enc (.un .del e n)) .undef (enc e) false 1048575 (R f s) (V.enc (.k 1),R f s3)).ok (d+7):=Nat.sub_add_cancel (ai (zK e) (Nat.le_of_lt (eG O.un.2 (bY rfl))):pl e<=1048575)▸k _ q
  exact ⟨.k 1,s3,ds1++ds2,run [.d (bN z).2,.g (run (G:=cl F.fS [W,enc (.un .del e n)] (R f s) (V.enc (.k 1),R f s3)) [.l l])],Y.t0 x3,P,λ_=>(bN z).1,λ_ _=>.of rfl⟩
 cases q:s2.off with
 | c=>cases b with
  | true=>exact fin {s2 with off:=.z} Ext.off (run [.g g.run,.g r2,.d (congrArg (λo=>o.n==2) q)])
  | false=>exact fin s2 Ext.refl (run [.g g.run,.g r2,.d (congrArg (λo=>o.n==2) q)])
 | _=>exact fin s2 Ext.refl (run [.g g.run,.g r2,.d (congrArg (λo=>o.n==2) q)])) B
end
noncomputable def Hid.len:Hid->Int | .o=>0 | .ab=>2 | _=>1
theorem pU(H:Hid)(h:Hp):tw h .len H.enc=some (.int H.len):=by cases H <;> rfl
theorem uJ(H:Hid)(h:Hp):ck h .gt (.int H.len) (.int 0)=some H.some:=by cases H <;> rfl
noncomputable def Pk.uw(k:Pk)(t:E)(x:Wt)(n:Nat):Wt:=match k with
 | .op _=>w0
 | .p4 _ p=>x.add ((w1 p).add (w2 t n))
 | .p5 _ _ _ p=>(x.add ((w1 p).add (w2 t n))).add ((w1 p).add (w1 n))
 | .p6 _ _=>x.add (w2 t n)
noncomputable def Pk.HR:Pk->Bool | .op _=>true | _=>false
noncomputable def Vs.aD(s:Vs)(n:Nat):Vs:={s with done:=s.done++[.int (n:Nat)]}
inductive Rn(f:Fx)(w:Wt)(s:Vs)(P:Vs->Prop):Prop | mk (s':Vs) (ds:List Nat):P s'->Ext f w s s' ds->Rn f w s P
section
variable{d:Nat}{f:Fx}{s s1 s2:Vs}{t e v:E}{b:aa}{c:Sx}{n:Nat}{k:Pk}{w:V}
theorem tH:Ext f (wd n) s (s.aD n) [n]:=
 ⟨rfl,bt aF,⟨[],(cY _).symm,(λ_ h=>nomatch h)⟩,λ_ _=>rfl,Nat.le_of_eq (by show (s.done++_).length + _ + _=s.done.length + _ + _ + 1;rw [List.length_append];exact (congrArg (· + s.met.length) (Nat.succ_add s.done.length _)).trans (Nat.succ_add _ _))⟩
noncomputable def vK(f:Fx)(s:Vs)(xs:List aa)(a p:aa)(w:V)(x y z:aa)(s':Vs):Gl:=fo 1 oe xs [W,a,p,w.enc,x,y,z] (R f s) (.none,R f s')
theorem GW(X:Cx f){r:Rr}(hr:r.ok=true)(hh:r.gK f.gK=f.gK.some){A:E}{x m:Nat}(ht:E.nm .x x∈fM A)(T:lC A)(O:Ok f.u A)(Ox:cU f.u (x:Int)=some (.int 1))(B:Bd (2 + (2 + n)) s):Rn f ((w1 r.bW).add (w1 (bW A))) s λs'=>∀x' y z,(vK f s [bind [] (enc (.nm .x x)) 8192 m] (enc A) r.enc w x' y z s').ok (d+4):=by
 have sp:=tV (d:=d+3) (f:=f) (s:=s) (u:=.x) (n:=x) Ox
 obtain ⟨K,a,ks,fl,er⟩:=r.nd hr
 have wr:∀{s1 ds1},Ext f (w1 r.bW) s s1 ds1->(∀s',(qa f s1 (enc A) (enc (.nm .x x)) .none (Nt.rs .x) (V.enc (.o .i2)) s').ok (d+3)->∀x' y z,(vK f s [bind [] (enc (.nm .x x)) 8192 m] (enc A) r.enc w x' y z s').ok (d+4))->Rn f ((w1 r.bW).add (w1 (bW A))) s λs'=>∀x' y z,(vK f s [bind [] (enc (.nm .x x)) 8192 m] (enc A) r.enc w x' y z s').ok (d+4):=λ{s1 ds1} x1 H=>by
  obtain ⟨s',ds,e1,x2⟩:=p8 (d:=d) X (x1.bd (show Bd ((w1 r.bW).c + (2 + n)) s from B)) (u:=.x) (r:=.s1) rfl ht T O (.o .i2)
  exact ⟨s',_,H s' e1,x1.trans x2⟩
 cases q:s.off.n==0 with
 | false=>exact wr (Ext.refl.mono .zero) λs' e x' y z=>er▸run [.g sp,.s 110 1,.d q,.g e]
 | true=>cases q2:f.gK.some with
  | false=>exact wr (Ext.refl.mono .zero) λs' e x' y z=>er▸run [.g sp,.s 110 1,.d q,.v 4 (pU f.gK),.q 1 (uJ f.gK),.d q2,.g e]
  | true=>
   obtain ⟨s1,e1,L⟩:=iO (d:=d+1) (s:=s) (K:=K) (a:=a) (ks:=ks) (fl:=fl) (m:=r.bW) (sort:=gv) X B
   rw [<-er]at L
   exact wr (L.ext aF (.inr (.read hr aF (hh.trans q2)))) λs' e x' y z=>er▸run [.g sp,.s 110 1,.d q,.v 4 (pU f.gK),.q 1 (uJ f.gK),.d q2,.g e1,.g e]
noncomputable def Sh(f:Fx)(s:Vs)(k:Pk)(t v:E)(n:Nat)(w:V)(s':Vs):Gl:=cl F.qD [W,enc (.asg k t v n),k.pat t,w.enc] (R f s) (.none,R f s')
theorem EE{H:Hid}{c:Nm}(h:H.has c=true):H.some=true:=by cases H <;> first | rfl | exact nomatch h
theorem Dh(X:Cx f)(hk:k.HR=false)(T:lC (.asg k t v n))(O:Ok f.u (.asg k t v n))(G:∀e o,vn t=some (e,o)->dW f e)(hd:4 * dep t + 8<=d + 6)(B:Bd (k.uw t (xw t) n).c s):Rn f (k.uw t (xw t) n) s λs'=>(vK f s (k.ks t (kf t)).enc (enc (.asg k t v n)) (k.pat t) w .undef .undef .undef s').ok (d+4):=by
 have S:Bd (xw t).c s->t∈fM (.asg k t v n)->RZ (d+3) f s t:=λB h=>CT (d:=d) (T.2 t h) G O.at.1 hd B
 have rd:∀{c s1},Bd 2 s1->(f.gK.has c=true->(Rr.pat k t).gK f.gK=true)->R4 (d+3) f s1 (.pat k t) c w:=λB h=>qp (d:=d) X B (by cases k <;> first | rfl | exact nomatch hk) w _ h
 cases k with
 | op o=>exact nomatch hk
 | p4 b p=>
  obtain ⟨b,c,s1,ds1,r1,x1,sp⟩:=S B.l aF
  have B1:=x1.bd B
  obtain ⟨w',s2,ds2,r2,x2⟩:=rd (c:=.a) B1.l id
  obtain ⟨s3,ds3,r3,x3⟩:=p9 (d:=d) X (x2.bd (c:=2) B1) sp aF T O w'
  exact ⟨s3,_,run [.g r1,.g r2,.g r3],x1.trans (x2.trans x3)⟩
 | p5 i x j p=>
  obtain ⟨b,c,s1,ds1,r1,x1,sp⟩:=S B.l.l aF
  have B1:=x1.bd (c:=4) B.l
  obtain ⟨w',s2,ds2,r2,x2⟩:=rd (c:=.b) (B1.le (aJ 2 2)) EE
  obtain ⟨s3,ds3,r3,x3⟩:=p9 (d:=d) X (x2.bd (c:=2) B1) sp aF T O w'
  have y3:=x1.trans (x2.trans x3)
  obtain ⟨s4,ds4,r4,x4⟩:=GW (d:=d) (m:=j) (n:=0) (w:=w) X (r:=.pat (.p5 i x j p) t) rfl rfl (bB _ aF) T O (O.1 _ (c6 _ aF)) (y3.bd B)
  exact ⟨s4,_,run [.g r1,.g r2,.g r3,.l (r4 (bind ou (enc t) 0 i) (.tup [enc t,b,.str c]) w'.enc)],y3.trans x4⟩
 | p6 b p=>
  obtain ⟨b,c,s1,ds1,r1,x1,sp⟩:=S B.l aF
  obtain ⟨s3,ds3,r3,x3⟩:=p9 (d:=d) X (x1.bd B) sp aF T O (.k 1)
  exact ⟨s3,_,run [.g r1,.g r3],x1.trans x3⟩
theorem AL(X:Cx f)(hk:k.HR=false)(T:lC (.asg k t v n))(O:Ok f.u (.asg k t v n))(G:∀e o,vn t=some (e,o)->dW f e)(hd:4 * dep t + 8<=d + 6)(B:Bd (k.uw t (xw t) n).c s):Rn f (k.uw t (xw t) n) s λs'=>(Sh f s k t v n w s').ok (d+4):=by
 have A:∀q,Rn f (k.uw t (xw t) n) s λs'=>(vK f {s with off:=q} (k.ks t (kf t)).enc (enc (.asg k t v n)) (k.pat t) w .undef .undef .undef s').ok (d+4):=λq=>by
  obtain ⟨s',ds,r,x⟩:=Dh (d:=d) (w:=w) (s:={s with off:=q}) X hk T O G hd B
  exact ⟨s',ds,r,(Ext.off.trans x).mono ⟨λ_ h=>h,λ_ h=>h,Nat.le_of_eq (Nat.zero_add _)⟩⟩
 cases q:s.off.n==0 with
 | false=>obtain ⟨s',ds,r,x⟩:=A s.off;exact ⟨s',ds,run [.d q,.l r],x⟩
 | true=>cases q2:w.null with
  | false=>obtain ⟨s',ds,r,x⟩:=A s.off;exact ⟨s',ds,run [.d q,.g (nb q2 (R f s)),.l r],x⟩
  | true=>obtain ⟨s',ds,r,x⟩:=A .t;exact ⟨s',ds,run [.d q,.g (nb q2 (R f s)),.l r],x⟩
end
noncomputable abbrev Wh:ME:=.ite (.cmp .eq (.attr (.v 1) fE) (.c (.str du))) (.tup [(.c (.str pj)),(.c (.int 0))]) (.call F.iX [(.v 0),(.v 5)])
noncomputable abbrev Wg:ME:=.or [(.cmp .in (.attr (.v 1) fE) (.tup [(.c (.str du)),(.c (.str cI))])),(.not (.call F.eB [(.slice (.attr (.v 1) fE) none (some (.neg (.c (.int 1))))),(.v 6)]))]
noncomputable abbrev Wj:ME:=.cmp .eq (.attr (.v 1) fE) (.c (.str cI))
noncomputable def Op.isAdd:Op->Bool | .add=>true | _=>false
theorem QD{x d:Nat}(hd:4 * (x + 1) + 8<=d):∃d',d=d' + 8/\4 * x + 8<=d' + 4:=
 let ⟨k,e⟩:=Nat.exists_eq_add_of_le hd
 ⟨4 * (x + 1) + k,e.trans (Nat.add_right_comm _ 8 k),gN (aJ (4 * x + 4) k) 4⟩
theorem Jj{k:Pk}{t:E}(hk:k.HR=false):[34,35].contains (k.K t)=true:=by cases k <;> first | rfl | exact nomatch hk
section
variable{d:Nat}{f:Fx}{s s1 s2:Vs}{t e v:E}{b x:aa}{c:Sx}{n:Nat}{k:Pk}{o:Op}{w z:V}
noncomputable abbrev Tv(k:Pk)(t v:E)(n:Nat)(x y z:aa):Env:=[W,enc (.asg k t v n),k.pat t,enc v,x,y,z]
noncomputable def VP(f:Fx)(s:Vs)(o:Op)(t v:E)(n:Nat)(x:aa)(w:V)(s':Vs):Gl:=ex 14 Wh (Tv (.op o) t v n .undef x .undef) (R f s) (w.enc,R f s')
noncomputable def Wm(f:Fx)(s:Vs)(o:Op)(t v:E)(n:Nat)(x:aa)(w:V)(b:Bool):Gl:=ex 13 Wg (Tv (.op o) t v n w.enc x w.enc) (R f s) (.bool b,R f s)
noncomputable def UW(f:Fx)(s:Vs)(o:Op)(t v:E)(n:Nat)(x y w:aa):Gl:=ex 13 Wj (Tv (.op o) t v n y x w) (R f s) (.bool o.isAdd,R f s)
theorem Qr{y w:aa}:(UW f s o t v n x y w).ok d:=by cases o <;> exact run []
theorem Qk:∃b,(Wm f s o t v n x w b).ok (d+2):=by
 cases o with
 | and=>exact ⟨!w.lM .and,run [.g (mV (R f s) .and w)]⟩
 | or=>exact ⟨!w.lM .or,run [.g (mV (R f s) .or w)]⟩
 | nul=>exact ⟨!w.lM .nul,run [.g (mV (R f s) .nul w)]⟩
 | _=>exact ⟨true,run []⟩
inductive Rj(d:Nat)(f:Fx)(s:Vs)(o:Op)(t v:E)(n:Nat)(x:aa):Prop | mk (w:V) (s':Vs) (ds:List Nat):(VP f s o t v n x w s').ok d->Ext f (OU t) s s' ds->Rj d f s o t v n x
theorem Ll(X:Cx f)(B:Bd j s)(h:NY t b c):Rj (d+4) f s o t v n (.tup [enc t,b,.str c]):=by
 obtain ⟨w,s2,ds2,e2,x2⟩:=Jg (d:=d) X B h
 cases o with
 | set=>exact ⟨.u false,s,[],run [],Ext.refl.mono .zero⟩
 | _=>exact ⟨w,s2,ds2,run [.g e2],x2⟩
noncomputable def Wi(f:Fx)(s:Vs)(e:E)(w:V)(s':Vs):Gl:=cl F.sV [W,enc e] (R f s) (w.enc,R f s')
theorem pY{ds:List Nat}(k:Pk)(t v:E)(n:Nat)(z:(s.off.n==0)=true)(x:Ext f (xw (.asg k t v n)) s s1 ds)(r:(Wi f s (.asg k t v n) w s1).ok (d+7)):AF f (.asg k t v n) (d+8) s:=
 ⟨w,s1,ds,run [.d (bN z).2,.g r],x,λF hF=>ay hF▸ .of λm h=>(vr _).n m (x.mem m h),λ_=>(bN z).1,λ_ _=>.of rfl⟩
theorem Mr(X:Cx f)(T:lC (.asg k t v n))(O:Ok f.u (.asg k t v n))(Gt:∀e o,vn t=some (e,o)->dW f e)(Gv:dW f v):dW f (.asg k t v n):=λd s hd B=>lW (λz B=>by
 obtain ⟨d,rfl,mR⟩:=QD (x:=max (dep t) (dep v)) hd
 have hv:4 * dep v + 8<=d + 6:=ai (Ir (Nat.le_max_right _ _) mR) (aJ _ 2)
 have ht:4 * dep t + 8<=d + 4:=Ir (Nat.le_max_left _ _) mR
 cases hk:k.HR with
 | true=>
  cases k with
  | op o=>
   obtain ⟨b,c,s1,ds1,r1,x1,sp⟩:=CT (d:=d+3) (s:=s) (T.2 t aF) Gt O.at.1 (ai ht (aJ _ 5)) B.l
   have B1:=x1.bd B
   obtain ⟨w,s2,ds2,r2,x2⟩:=Ll (d:=d+3) (o:=o) (v:=v) (n:=n) X B1 sp
   have B2:=x2.bd B1
   let x:aa:=.tup [enc t,b,.str c]
   obtain ⟨q,r3⟩:=Qk (d:=d+5) (f:=f) (s:=s2) (o:=o) (t:=t) (v:=v) (n:=n) (x:=x) (w:=w)
   let A:List (Fact (d+7))->List (Fact (d+7)):=λr=>.q 1 (Kq (T.2 t aF)).2:: .g r1:: .l r2:: .l r3::r
   cases q with
   | false=>
    have Y:=λ{s5 ds5} (x:Ext f (wd n) s2 s5 ds5)=>pY (d:=d) (w:=w) (.op o) t v n z ((x1.trans (x2.trans x)).mono (.ad .rf (.ad .rf (.trans .r .r))))
    cases q:s2.off.n==0 with
    | true=>exact Y tH (run (A [.d q,.p 16 (cJ (jg (f:=f) (s:=s2))),.a 17 (kR (f:=f) s2 (.int n) B2.fit.1)]))
    | false=>exact Y (Ext.refl.mono .zero) (run (A [.d q]))
   | true=>
    obtain ⟨v',s3,ds3,g⟩:=Gv (d+6) s2 hv B2.l
    have B3:=g.ext.bd B2
    have r4:=g.run
    have wr:∀z:V,T1 (d+6) f s3 t (.asg (.op o) t v n) b c z:=p9 (d:=d+3) X B3.l sp aF T O
    have ga:∀y,(UW f s3 o t v n x y w.enc).ok (d+7):=λy=>Qr
    cases j:o.isAdd with
    | true=>
     obtain ⟨s4,ds4,r5,x4⟩:=wr (.k 1)
     have Y:=λ{s5 ds5} (x:Ext f (wd n) s4 s5 ds5)=>pY (d:=d) (w:=.k 1) (.op o) t v n z (x1.trans (x2.trans (g.ext.trans (x4.trans x))))
     cases q:s4.off.n==0 with
     | true=>exact Y tH (run (A [.g r4,.l (ga v'.enc),.b j,.g r5,.d q,.p 16 (cJ (jg (f:=f) (s:=s4))),.a 17 (kR (f:=f) s4 (.int n) (x4.bd B3).fit.1)]))
     | false=>exact Y (Ext.refl.mono .zero) (run (A [.g r4,.l (ga v'.enc),.b j,.g r5,.d q]))
    | false=>
     obtain ⟨s4,ds4,r5,x4⟩:=wr v'
     have Y:=λ{s5 ds5} (x:Ext f (wd n) s4 s5 ds5)=>pY (d:=d) (w:=v') (.op o) t v n z (x1.trans (x2.trans (g.ext.trans (x4.trans x))))
     cases q:s4.off.n==0 with
     | true=>exact Y tH (run (A [.g r4,.l (ga v'.enc),.b j,.g r5,.d q,.p 16 (cJ (jg (f:=f) (s:=s4))),.a 17 (kR (f:=f) s4 (.int n) (x4.bd B3).fit.1)]))
     | false=>exact Y (Ext.refl.mono .zero) (run (A [.g r4,.l (ga v'.enc),.b j,.g r5,.d q]))
  | _=>exact nomatch hk
 | false=>
  have hw:xw (.asg k t v n)=(xw v).add ((k.uw t (xw t) n).add (wd n)):=by cases k <;> first | rfl | exact nomatch hk
  rw [hw]at B
  obtain ⟨w,s1,ds1,g⟩:=Gv (d+6) s hv B.l
  have B1:=g.ext.bd B
  have r1:=g.run
  obtain ⟨s2,ds2,r2,x2⟩:=AL (d:=d+2) (s:=s1) (w:=w) X hk T O Gt (ai ht (aJ _ 4)) B1.l
  have Y:=λ{s5 ds5} (x:Ext f (wd n) s2 s5 ds5)=>pY (d:=d) (w:=w) k t v n z (hw▸g.ext.trans (x2.trans x))
  cases q:s2.off.n==0 with
  | true=>exact Y tH (run [.q 1 (lG (k.K t) [34,35]),.d (Jj (t:=t) hk),.g r1,.g r2,.d q,.p 16 (cJ (jg (f:=f) (s:=s2))),.a 17 (kR (f:=f) s2 (.int n) (x2.bd B1).fit.1)])
  | false=>exact Y (Ext.refl.mono .zero) (run [.q 1 (lG (k.K t) [34,35]),.d (Jj (t:=t) hk),.g r1,.g r2,.d q])) B
end
theorem Ae{o:Bool}{x y:Option Path×Nat}{l:List (Option Path×Nat)}(h:y∈Cm o x l):y=x\/y∈l:=match o,h with
 | false,h=>.inr h
 | true,h=>List.mem_cons.mp h
theorem BC(e:E):∀x∈holds e,x.2∈all e:=by
 have c:∀{o p l},(∀x∈holds p,x.2∈all p)->∀x∈Cm o (aS p,bW p) (holds p),x.2∈all p++l:=λ{o p l} ih x h=>cu _ ((Ae h).elim (λh=>h▸k8 p) (ih x))
 induction e with
 | wr k e n ih=>exact λx h=>cu _ (ih x h)
 | mem o _ e n ih=>exact c ih
 | idx o _ e n ih=>exact c ih
 | call w o k f p q m n ih=>cases w with
  | true=>exact λx h=>nomatch h
  | false=>exact c ih
 | _=>exact λx h=>nomatch h
section
variable{d:Nat}{f:Fx}{s s1 s2:Vs}{g p q:E}{A:aa}{m n:Nat}{k:Ak}{v:V}{o w:Bool}{W':Wt}{xs ys:List aa}
noncomputable def TK(f:Fx)(s:Vs)(A:aa)(v:V)(xs:List aa)(y:aa)(r:aa×Hp):Gl:=fo 2 oh xs [W,A,v.enc,y] (R f s) r
inductive NF(d:Nat)(f:Fx)(w:Wt)(A:aa)(v:V)(s:Vs)(xs ys:List aa):Prop | mk (s':Vs) (ds:List Nat):(s'.off= .z->s.off= .z)->(∀y r,(∀y,(TK f s' A v ys y r).ok d)->(TK f s A v xs y r).ok d)->Ext f w s s' ds->NF d f w A v s xs ys
theorem NF.trans{x y:Wt}{zs:List aa}(h:NF d f x A v s xs ys)(B:Bd (x.add y).c s)(k:∀s1,Bd y.c s1->NF d f y A v s1 ys zs):NF d f (x.add y) A v s xs zs:=by
 obtain ⟨s1,ds,z1,r1,x1⟩:=h
 obtain ⟨s2,ds2,z2,r2,x2⟩:=k s1 (x1.bd B)
 exact ⟨s2,_,λh=>z1 (z2 h),λy r h=>r1 y r λy=>r2 y r h,x1.trans x2⟩
theorem zg(X:Cx f){sp:Option Nat}(G:dW f p)(hd:4 * dep p + 8<=d + 3)(xs:List aa)(s:Vs)(B:Bd ((xw p).add (sw sp)).c s):NF (d+4) f ((xw p).add (sw sp)) A v s (CX (sp,p)::xs) xs:=by
 obtain ⟨v',s1,ds,g⟩:=G (d+3) s hd B.l
 have r1:=g.run
 cases sp with
 | none=>exact ⟨s1,ds,g.off,λy r h=>run [.d (Cj p),.g r1,.d (Cj p),.l (h (enc p))],g.ext.mono .l⟩
 | some m=>
  let x:=nd 15 aQ [enc p] 0 m
  cases q:s1.off.n==0 with
  | false=>exact ⟨s1,ds,g.off,λy r h=>run [.g r1,.s 110 1,.d q,.l (h x)],g.ext.mono .l⟩
  | true=>cases q2:f.gK.some with
   | false=>exact ⟨s1,ds,g.off,λy r h=>run [.g r1,.s 110 1,.d q,.v 4 (pU f.gK),.q 1 (uJ f.gK),.d q2,.l (h x)],g.ext.mono .l⟩
   | true=>
    obtain ⟨s2,e2,L⟩:=iO (d:=d+1) (s:=s1) (K:=15) (a:=aQ) (ks:=[enc p]) (fl:=0) (m:=m) (sort:=gv) X (g.ext.bd B)
    exact ⟨s2,_,λh=>g.off (L.off▸h),λy r h=>run [.g r1,.s 110 1,.d q,.v 4 (pU f.gK),.q 1 (uJ f.gK),.d q2,.g e2,.l (h x)],g.ext.trans (L.ext aF (.inr (.read (r:=.Cg p m) rfl aF q2)))⟩
noncomputable def Ak.u1:Ak->Bool | .zero=>false | _=>true
noncomputable def Ak.u2:Ak->Bool | .two _ _=>true | _=>false
theorem IL(X:Cx f)(G1:k.u1=true->dW f p)(G2:k.u2=true->dW f q)(h1:4 * dep p + 8<=d + 3)(h2:4 * dep q + 8<=d + 3)(B:Bd (k.w (xw p) (xw q)).c s):NF (d+4) f (k.w (xw p) (xw q)) A v s (k.args p q) []:=by
 rw [args_eq]
 cases k with
 | zero=>exact ⟨s,[],id,λy r h=>h y,Ext.refl⟩
 | one sp=>exact zg X (G1 rfl) h1 [] s B
 | two sp sq=>exact (zg X (G1 rfl) h1 _ s B.l).trans B λs1 B=>zg X (G2 rfl) h2 [] s1 B
theorem Wt.le.as{x y z:Wt}:((x.add y).add z).le (x.add (y.add z)):=⟨λm=>(cL x.N y.N z.N▸id:m∈x.N++y.N++z.N->m∈x.N++(y.N++z.N)),λm=>(cL x.I y.I z.I▸id:m∈x.I++y.I++z.I->m∈x.I++(y.I++z.I)),Nat.le_of_eq (Nat.add_assoc ..)⟩
theorem Dk{r:Nat}:Ext f w0 s {s with roll:=r} []:=.Jo ⟨rfl,rfl,rfl⟩
theorem Ic(X:Cx f)(G:dW f g)(G1:k.u1=true->dW f p)(G2:k.u2=true->dW f q)(O:Ok f.u g)(hN:(all (.call w o k g p q m n)).Nodup):dW f (.call w o k g p q m n):=λd s hd B=>lW (λz B=>by
 obtain ⟨d,rfl,mR⟩:=QD (x:=max (dep g) (max (dep p) (dep q))) hd
 have up:∀{x},x<=max (dep g) (max (dep p) (dep q))->4 * x + 8<=d + 6:=λh=>ai (Ir h mR) (aJ _ 2)
 obtain ⟨v,s1,ds1,g1⟩:=G (d+6) s (up (Nat.le_max_left _ _)) B.l.l
 let A:=enc (.call w o k g p q m n)
 have B1:=g1.ext.bd B.l
 have x2:=Ax (f:=f) (s:=s1) (o:=o) (m:=bW g) (v:=v)
 have y2:=g1.ext.trans x2
 have B2:=y2.bd B
 obtain ⟨s3,ds3,z3,r3,x3⟩:=IL (d:=d+3) (k:=k) (A:=A) (v:=v) X G1 G2 (up (ai (Nat.le_max_left _ _) (Nat.le_max_right _ _))) (up (ai (Nat.le_max_right _ _) (Nat.le_max_right _ _))) B2.l
 have r1:=g1.run
 have r2:=λK=>Aw (d:=d+5) (f:=f) (k:=K) (a:=aQ) (r:=[nd 71 aQ (k.args p q) 0 m,.none]) (o:=o) (e:=g) (n:=n) B1 v
 have y3:=y2.trans x3
 have B3:=x3.bd B2
 have mk:∀{v' s' ds'},Ext f (w1 n) s3 s' ds'->(s'.off= .z->v'≠ .u true->Hf (.call w o k g p q m n) s')->(∀y,(TK f s3 A v [] y (V.enc v',R f s')).ok (d+7))->AF f (.call w o k g p q m n) (d+8) s:=λ{v' s' ds'} x hf r=>by
  have r:=r3 .undef _ r
  refine ⟨v',s',_,?_,(y3.trans x).mono .as,.of rfl,λ_=>(bN z).1,hf⟩
  cases w with
  | true=>exact run [.d (bN z).2,.g (show (cl F.mE [W,A] (R f s) (V.enc v',R f s')).ok (d+7)from run [.g r1,.g (r2 19),.l r])]
  | false=>exact run [.d (bN z).2,.g (show (cl F.mE [W,A] (R f s) (V.enc v',R f s')).ok (d+7)from run [.g r1,.g (r2 18),.l r])]
 have H3:s3.off= .z->v.null=false->Hf (.call w o k g p q m n) s3:=λh3 hv x hx=>by
  cases w with
  | true=>exact nomatch hx
  | false=>
   obtain ⟨k2,k3⟩:=xf (z3 h3)
   have hm:x.2∈all g:=(Ae (o:=o) hx).elim (λh=>h▸k8 g) (BC g x)
   have hb:∀x∈holds g,_:=λx hx=>k3 _ (g1.hf (ve _ _ _ _ (z3 h3)) (λq=>nomatch hv.symm.trans (congrArg V.null q)) x hx)
   rw [x3.met _ λh=>(cg hN).2.2 _ hm ((Jt (c:=[]) (vr p) (vr q)).i _ h)]
   cases o with
   | false=>exact hb x hx
   | true=>exact (List.mem_cons.mp hx).elim (λq=>q▸k2 rfl) (hb x)
 cases q0:s3.off.n==0 with
 | false=>exact mk (v':=.k 1) (Ext.refl.mono .zero) (λh=>absurd h (rV q0).1) λy=>run [.d q0,.d (rV q0).2]
 | true=>cases hv:v.null with
  | true=>exact mk (v':=.k 1) (s':={s3 with off:=.t}) (Ext.off.mono .zero) (λh=>nomatch h) λy=>run [.d q0,.g (nb hv (R f s3))]
  | false=>
   have ig:=JG (d:=d+6) (h:=R f s3) (u:=f.u) (w:=W) (v:=w) (o:=o) (a:=k) (p:=p) (q:=q) (m:=m) (j:=n) rfl rfl rfl O
   unfold P8 at ig
   cases hg:glob g with
   | true=>
    rw [hg]at ig
    exact mk (v':=.k 1) (Ext.refl.mono .zero) (λh _=>H3 h hv) λy=>run [.d q0,.g (nb hv (R f s3)),.d (bN q0).2,.g ig]
   | false=>
    rw [hg]at ig
    obtain ⟨s5,e5,L⟩:=iO (d:=d+4) (s:=s3) (K:=bV (.call w o k g p q m n)) (a:=aQ) (ks:=(kf (.call w o k g p q m n)).enc) (fl:=oi o) (m:=n) (sort:=kB) X B3
    obtain ⟨r,er⟩:=zE (d:=d+6) (s:=s5) X.nums X.len
    obtain ⟨v',ev⟩:∃v:V,∀h,aY h tQ (.int (((r:Nat):Int) % 7))=some v.enc:=vA (r % 7) (Nat.mod_lt _ (aI rfl))
    exact mk (v':=v') (s':={s5 with roll:=s5.roll + 1}) (cY [n]▸((L.ext aF (.inr (.call aF O hg))).trans Dk).mono .z) (λh _ x hx=>(congrArg (cU · _) L.met).trans (H3 (L.off.symm.trans h) hv x hx))
     λy=>run [.d q0,.g (nb hv (R f s3)),.d (bN q0).2,.g ig,.g e5,.g er,.w 7 (b9 (i:=(r:Nat)) (j:=7) (by decide)),.v 0 ev]) B
end
theorem Mb{t:E}(h:eN t=true):jc t=t:=E.lj (P:=λt=>jc t=t) (λ_ _=>rfl) (λ_ _ _ _=>rfl) (λ_ _ _ _=>rfl) t h
theorem vf{k:Pk}{t v:E}{n:Nat}(h:eN t=true):lC (.asg k t v n):=by
 refine ⟨rfl,?_⟩
 cases k with
 | p5 b x c p=>exact λs hs=>(List.mem_cons.mp hs).elim (λe=>e▸h) (bt (P:=λt=>eN t=true) (x:=.nm .x x) rfl s)
 | _=>exact bt (P:=λt=>eN t=true) h
section
variable{f:Fx}{e:E}
noncomputable def N4(f:Fx)(e:E):Prop:=∀e' o,vn (jc e)=some (e',o)->dW f e'
noncomputable def W4(f:Fx)(e:E):Prop:=Ok f.u e->wt e->(all e).Nodup->dW f e/\N4 f e
theorem N4.no(h:vn (jc e)=none):N4 f e:=λe' o q=>nomatch h.symm.trans q
theorem N4.tg(h:eN e=true)(G:N4 f e):∀e' o,vn e=some (e',o)->dW f e':=λe' o q=>G e' o ((Mb h).symm▸q)
theorem zV{v:V}(h0:xw e=w0)(h1:h9 e=none)(h2:holds e=[])(h3:vn (jc e)=none)(k:∀(d:Nat) (s:Vs),(s.off.n==0)=true->(Co f s (enc e) v s).ok (d+8)):dW f e/\N4 f e:=⟨JN h0 h1 h2 λd s z=>⟨v,k d s z⟩,.no h3⟩
theorem Qn(X:Cx f)(e:E):W4 f e:=by
 induction e with
 | nm u n=>exact λO _ _=>⟨JN rfl rfl rfl λd s z=>JL (d:=d+6) (O.1 _ aF),.no rfl⟩
 | this n=>exact λ_ _ _=>zV (v:=f.vt) rfl rfl rfl rfl λd s z=>run [.d (bN z).2]
 | num b n=>exact λ_ _ _=>zV (v:=.k (bi b)) rfl rfl rfl rfl λd s z=>run [.d (bN z).2]
 | fn e m n=>exact λ_ _ _=>zV (v:=.k 1) rfl rfl rfl rfl λd s z=>run [.d (bN z).2]
 | cls e m g r n=>exact λ_ _ _=>zV (v:=.k 1) rfl rfl rfl rfl λd s z=>run [.d (bN z).2]
 | wr k e n ih=>exact λO w N=>(ih O.wr w (cg N).1).imp Ql id
 | mem o c e n ih=>exact λO w N=>have G:=(ih O.mem w (cg N).1).1;⟨JM X rfl G O.1 N,λe' o h=>(Prod.mk.inj (ay h)).1▸G⟩
 | idx o c e n ih=>exact λO w N=>have G:=(ih O.idx w (cg N).1).1;⟨JM X rfl G O.1 N,λe' o h=>(Prod.mk.inj (ay h)).1▸G⟩
 | call w o k g p q m n i1 i2 i3=>
  exact λO W N=>
  have N':=cg N
  ⟨Ic X (i1 O.cf W.1 N'.1).1 (λh=>by
   cases k with
   | zero=>exact nomatch h
   | one s=>exact (i2 O.cp W.2.1 (cg N'.2.1).1).1
   | two s t=>exact (i2 O.cp W.2.1 (cg (cg N'.2.1).1).1).1) (λh=>by
   cases k with
   | two s t=>exact (i3 O.cq W.2.2 (cg (cg N'.2.1).1).2.1).1
   | _=>exact nomatch h) O.cf N,.no rfl⟩
 | asg k t v n i1 i2=>exact λO W N=>have N':=cg N;⟨Mr X (vf W.1) O ((i1 O.at W.2.1 N'.1).2.tg W.1) (i2 O.av W.2.2 (cg N'.2.1).1).1,.no rfl⟩
 | un s e n ih=>
  exact λO W N=>
  have G:=ih O.un W.2 (cg N).1
  ⟨by
   cases s with
   | del=>exact Mp X ⟨rfl,bt W.1.1⟩ W.1.2 G.2 O N
   | _=>exact Qm rfl G.1,.no rfl⟩
 | upd b t n ih=>exact λO W N=>⟨Ml X ⟨rfl,bt W.1⟩ ((ih O.upd W.2 (cg N).1).2.tg W.1) O,.no rfl⟩
 | bin s p q n i1 i2=>exact λO W N=>have N':=cg N;⟨Mq (i1 O.bl W.1 N'.1).1 (i2 O.br W.2 (cg N'.2.1).1).1 N,.no rfl⟩
 | pick p q r n i1 i2 i3=>exact λO W N=>have N':=cg N;have N2:=cg N'.2.1;⟨Ib (i1 O.p1 W.1 N'.1).1 (i2 O.p2 W.2.1 N2.1).1 (i3 O.p3 W.2.2 (cg N2.2.1).1).1,.no rfl⟩
end
theorem DO(c c':Nm)(x y:Sx):(c.s++x==c'.s++y)=(c.s==c'.s&&x==y):=by cases c <;> cases c' <;> rfl
theorem Lv(c c':Nm)(x y:Sx):cv (c.s++x) (c'.s++y)=(c'.s==c.s&&cv x y):=by cases c <;> cases c' <;> rfl
theorem tZ(r r':Rt)(x y:Sx):(r.s++x==r'.s++y)=(r.s==r'.s&&x==y):=by cases r <;> cases r' <;> rfl
theorem KR(r r':Rt)(x y:Sx):cv (r.s++x) (r'.s++y)=(r'.s==r.s&&cv x y):=by cases r <;> cases r' <;> rfl
noncomputable abbrev mA(l:List Nm):List aa:=l.map λc=>.str c.s
theorem QE(l:List Nm):∀l',pJ (mA l) (mA l')=(fH l==fH l'):=by
 induction l with
 | nil=>exact λl'=>match l' with
  | []=>rfl
  | _::_=>rfl
 | cons c l ih=>exact λl'=>match l' with
  | []=>rfl
  | c'::l'=>(congrArg (c.s==c'.s&&·) (ih l')).trans (DO c c' _ _).symm
noncomputable def lU(p k:Path):Bool:=Nat.blt p.2.length k.2.length&&dot (k.1,k.2.take p.2.length)==dot p
theorem MK(l:List Nm):∀l',cv (fH l++[46]) (fH l')=(Nat.blt l.length l'.length&&fH (l'.take l.length)==fH l):=by
 induction l with
 | nil=>exact λl'=>match l' with
  | []=>rfl
  | _::_=>rfl
 | cons c l ih=>exact λl'=>match l' with
  | []=>rfl
  | c'::l'=>by
   show cv (c.s++fH l++[46]) (c'.s++fH l')=(Nat.blt l.length l'.length&&(c'.s++fH (l'.take l.length)==c.s++fH l))
   rw [cL,Lv,DO,ih,Bool.and_left_comm]
theorem La(p k:Path):pre (dz (some p)) k=lU p k:=by
 have e:(dz (some p)==[])=false:=by show (p.1.s++fH p.2++[]==[])=false;cases p.1 <;> rfl
 unfold pre lU
 rw [e]
 show cv (p.1.s++fH p.2++[]++[46]) (k.1.s++fH k.2)=(_&&(k.1.s++_==p.1.s++_))
 rw [cY,cL,KR,tZ,MK,Bool.and_left_comm]
section
variable{d:Nat}{h:Hp}{k:Path}{α:Type}{u:List (Int×aa)}
theorem HU(n:Nat)(l:List Nm):(mA l).all (hG n)=true:=by
 induction l with
 | nil=>rfl
 | cons c l ih=>exact (congrArg (·&&(mA l).all (hG n)) (by cases n <;> rfl:hG n (.str c.s)=true)).trans ih
theorem nS(k:Path):hG 3 (b7 k)=true:=HU 2 k.2
theorem vj(p k:Path):rS (b7 p) (b7 k)=some (dot p==dot k):=by
 unfold rS;rw [nS,nS]
 exact congrArg some ((congrArg (p.1.s==k.1.s&&·) (QE p.2 k.2)).trans (tZ _ _ _ _).symm)
theorem AB(r:Option Path)(k:Path):rS (bk r) (b7 k)=some (dz r==dot k):=match r with
 | none=>by
  unfold rS;rw [nS]
  exact congrArg some (by show false=([]==k.1.s++fH k.2);cases k.1 <;> rfl)
 | some p=>(vj p k).trans (congrArg (λx=>some (x==dot k)) (cY (dot p)).symm)
theorem Ew(r:Option Path):hG 3 (bk r)=true:=match r with
 | none=>rfl
 | some p=>nS p
theorem pX(r:Option Path)(k:Path)(h:Hp):ck h .eq (bk r) (b7 k)=some (dz r==dot k):=by
 show uO (hG 3 (bk r)) _=_;rw [Ew];exact AB r k
theorem MQ(p k:Path)(h:Hp):ck h .eq (b7 p) (b7 k)=some (dot p==dot k):=by
 show uO (hG 3 (b7 p)) _=_;rw [nS];exact vj p k
theorem Ac{g:α->Option Path}(k:Path)(l:List α)(h:Hp):ck h .in (b7 k) (.list (l.map λt=>bk (g t)))=some (l.any λt=>dz (g t)==dot k):=(show xx (b7 k) (l.map λt=>bk (g t))=_ by
 induction l with
 | nil=>rfl
 | cons a l ih=>show oS (rS (bk (g a)) (b7 k)) (λa=>oS (xx (b7 k) (l.map λt=>bk (g t))) (λb=>some (a ||b)) none) none=_;rw [ih,AB];rfl)
theorem nZ(h:Hp){f:aa->HM (Option aa)}{en:α->aa}{r:α->Option aa}(xs:List α)(e:∀x∈xs,f (en x) h=some (r x,h)):dy f (xs.map en) h=some (xs.filterMap r,h):=by
 induction xs with
 | nil=>rfl
 | cons x xs ih=>exact bL (e x aF) (bL (ih λy hy=>e y (bB _ hy)) (by show some (oS (r x) _ _,h)=_;rw [List.filterMap_cons];cases r x <;> rfl))
theorem yJ{t:ji}{test elt:ME}{env env':Env}{x y:aa}{q:Bool}(e1:gq env t x=some env')(e2:(ex 0 test env' h (.bool q,h)).ok d)(e3:ev pg (aM pg d) elt env' h=some (y,h)):ov (aM pg d) t (some test) elt env x h=some (bif q then some y else none,h):=
 (congrArg (λo=>hY o (λenv'=>aL (MB pg (aM pg d) (some test) env') λq=>gJ q (aL (ev pg (aM pg d) elt env') λy=>aj (some y)) (aj none)) h) e1).trans (bL (bL e2 rfl) (match q with
 | true=>bL e3 rfl
 | false=>rfl))
theorem k9{p:Path}(hp:p.2.length < 1000000)(h:Hp):tw h .len (b7 p)=some (.int (p.2.length + 1:Nat)):=
 have e:(aa.str p.1.s::mA p.2).length=p.2.length + 1:=congrArg (· + 1) (List.length_map ..)
 (gU (e▸eG (Nat.succ_lt_succ hp) (bY rfl))).trans (congrArg (λn:Nat=>some (aa.int n)) e)
theorem Wu(a b:Nat):decide ((a:Int) < (b:Int))=Nat.blt a b:=by rw [Bool.eq_iff_iff,decide_eq_true_iff,Nat.blt_eq];exact Int.ofNat_lt
theorem LQ{i:Nat}(hk:k.2.length < 1000000)(hi:Nat.blt i k.2.length=true)(h:Hp):eK h (b7 k) .none (.int (i + 1:Nat))=some (b7 (k.1,k.2.take i)):=
 have e:(aa.str k.1.s::mA k.2).length=k.2.length + 1:=congrArg (· + 1) (List.length_map ..)
 (if_pos ⟨Int.natCast_nonneg _,e▸Int.ofNat_lt.mpr (Nat.succ_lt_succ (Nat.blt_eq▸hi)),decide_eq_true (e▸eG (Nat.succ_lt_succ hk) (bY rfl))⟩).trans (congrArg (λl=>some (aa.tup (.str k.1.s::l))) List.map_take.symm)
theorem nM(hk:k∈keys)(h:Hp):eK h (b7 k) (.int 1) .none=some (.tup (mA k.2)):=ir (P:=λk=>eK h (b7 k) (.int 1) .none=some (.tup (mA k.2))) hk rfl rfl rfl rfl rfl
noncomputable abbrev UL:ME:=.and [(.cmp .lt (.b1 .len (.v 7)) (.b1 .len (.v 0))),(.cmp .eq (.slice (.v 0) none (some (.b1 .len (.v 7)))) (.v 7))]
noncomputable abbrev UI:ME:=.or [(.cmp .is (.v 9) (.c .none)),(.cmp .in (.v 9) (.slice (.v 0) (some (.c (.int 1))) none))]
noncomputable def PO(h:Hp)(k p:Path)(x y a b c:aa)(z:Env):Gl:=ex 0 UL (b7 k::x::y::a::b::c:: .undef::b7 p::z) h (.bool (lU p k),h)
theorem PM{p:Path}{x y a b c:aa}{z:Env}(hk:k.2.length < 1000000)(hp:p.2.length < 1000000):(PO h k p x y a b c z).ok d:=by
 unfold PO lU
 have e:decide (((p.2.length + 1:Nat):Int) < ((k.2.length + 1:Nat):Int))=Nat.blt p.2.length k.2.length:=Wu _ _
 cases q:Nat.blt p.2.length k.2.length with
 | true=>exact run [.v 4 (k9 hp),.v 4 (k9 hk),.d (e.trans q),.v 4 (k9 hp),.v 5 (LQ hk q),.q 1 (MQ (k.1,k.2.take p.2.length) p)]
 | false=>exact run [.v 4 (k9 hp),.v 4 (k9 hk),.d (e.trans q)]
noncomputable def NT(k:Path):E->Bool
 | .mem _ c _ _=>k.2.contains c
 | .idx _ t _ _=>t.nm.elim true k.2.contains
 | _=>false
noncomputable def UJ(h:Hp)(k:Path)(t:E)(x y a:aa):Gl:=ex 0 UI [b7 k,x,y,a,.undef,.undef,.undef,.undef,bk (ref t),iU t] h (.bool (NT k t),h)
theorem Md(l:List Nm)(h:Hp):ck h .in (.str []) (.tup (mA l))=some false:=(rK l).trans (congrArg some (by
 induction l with
 | nil=>rfl
 | cons c l ih=>cases c <;> exact ih))
theorem PD{x y a:aa}(hk:k∈keys){t:E}(ht:eN t=true):(UJ h k t x y a).ok d:=
 have i:∀c h,ck h .in (.str c.s) (.tup (mA k.2))=some (k.2.contains c):=λc h=>yz c k.2 h
 E.lj (P:=λt=>(UJ h k t x y a).ok d) (λs m=>run [.v 5 (nM hk),.q 1 (Md k.2)]) (λ_ c _ _=>run [.v 5 (nM hk),.q 1 (i c)]) (λ_ t _ _=>match t with
  | .y _=>run []
  | .str c _=>run [.v 5 (nM hk),.q 1 (i c)]
  | .rO c _=>run [.v 5 (nM hk),.q 1 (i c)]) t ht
theorem D5(k:Path)(L:List E):L.any (nB k)=(!k.2.isEmpty&&L.any (NT k)):=by
 induction L with
 | nil=>exact (Bool.and_false _).symm
 | cons t L ih=>
  have e:nB k t=(!k.2.isEmpty&&NT k t):=by
   cases t with
   | mem=>rfl
   | idx=>rfl
   | _=>exact (Bool.and_false _).symm
  exact (congrArg (nB k t ||·) ih).trans ((congrArg (· ||_) e).trans (Bool.and_or_distrib_left ..).symm)
theorem G4(k:Path)(L:List E):((L.filterMap ref).any λp=>dz (some p)==dot k)=L.any λt=>dz (ref t)==dot k:=by
 induction L with
 | nil=>rfl
 | cons t L ih=>
  rw [List.filterMap_cons,List.any_cons,<-ih]
  cases ref t with
  | none=>show _=(([]==k.1.s++fH k.2) ||_);cases k.1 <;> rfl
  | some p=>rfl
theorem Eb(k:Path)(L:List E):((L.filterMap ref).any λp=>lU p k)=L.any λt=>pre (dz (ref t)) k:=by
 induction L with
 | nil=>rfl
 | cons t L ih=>
  rw [List.filterMap_cons,List.any_cons,<-ih]
  cases ref t with
  | none=>rfl
  | some p=>rw [La];rfl
theorem Lb(p:α->Bool)(g:α->aa)(L:List α):decide (((L.filterMap λx=>bif p x then some (g x)else none).length:Int) > 0)=L.any p:=by
 induction L with
 | nil=>rfl
 | cons x L ih=>
  rw [List.filterMap_cons,List.any_cons]
  cases p x with
  | true=>exact decide_eq_true (Int.natCast_pos.mpr (Nat.succ_pos _))
  | false=>exact ih
theorem Mv{r:α->Option β}{L:List α}(h:L.length<=2):(L.filterMap r).length < LF:=nA (ai (List.length_filterMap_le _ _) h) rfl
noncomputable def nV(k:Path)(e:E):aa:=.tup [.bool (lR e k),.bool (jw e k),.bool (sS e k)]
noncomputable def JK(h:Hp)(k:Path)(e:E):Gl:=cl F.kj [b7 k,.list ((fM e).map cb)] h (nV k e,h)
theorem QH(l:List Nm):decide (((l.length + 1:Nat):Int) > 1)= !l.isEmpty:=match l with
 | []=>rfl
 | c::l=>decide_eq_true (Int.ofNat_lt.mpr (Nat.succ_lt_succ (Nat.succ_pos _)))
theorem Ah{e:E}(hk:k∈keys)(o:Ok u e)(T:lC e):(JK h k e).ok d:=by
 let L:=fM e
 let P:=L.filterMap ref
 let rows:aa:=.list (L.map cb)
 let E1:Env:=[.undef,.undef,.undef,.undef,.undef,.undef]
 have hL:L.length<=2:=vz e T.1
 have kl:k.2.length < 1000000:=ir (P:=λk=>k.2.length < 1000000) hk (aI rfl) (aI rfl) (aI rfl) (aI rfl) (aI rfl)
 have nL:(L.map cb).length < LF:=d8 (nA hL rfl)
 have c1:dy (ov (aM pg d) (.tup [5,6]) (some (.cmp .fh (.v 5) (.c .none))) (.v 5) (b7 k::rows:: .undef:: .undef::E1)) (L.map cb) h=some (P.map λp=>bk (some p),h):=
  (nZ h (r:=λt=>(ref t).map λp=>bk (some p)) L λt _=>by unfold cb;cases ref t <;> kernel_rfl).trans (congrArg (λl=>some (l,h)) List.map_filterMap.symm)
 let v2:aa:=.list (P.map λp=>bk (some p))
 have c2:dy (ov (aM pg d) (.v 7) (some UL) (.v 7) (b7 k::rows::v2:: .undef::E1)) (P.map λp=>bk (some p)) h=some (P.filterMap λp=>bif lU p k then some (b7 p)else none,h):=
  nZ h (en:=b7) P λp hp=>yJ rfl (PM kl (by
   obtain ⟨t,ht,e1⟩:=List.mem_filterMap.mp hp
   exact bJ (pP t p e1) (cK (tM o T.1 t ht).2 (aI rfl)))) rfl
 let v3:aa:=.list (P.filterMap λp=>bif lU p k then some (b7 p)else none)
 have c3:dy (ov (aM pg d) (.tup [8,9]) none UI (b7 k::rows::v2::v3::E1)) (L.map cb) h=some (L.map λt=>.bool (NT k t),h):=
  comp_map h L λt ht=>jf rfl (PD hk (T.2 t ht))
 have r1:∀h,ck h .in (b7 k) v2=some (lR e k):=λh=>(Ac (g:=some) k P h).trans (congrArg some (G4 k L))
 have r2:decide (((P.filterMap λp=>bif lU p k then some (b7 p)else none).length:Int) > 0)=jw e k:=(Lb (lU · k) b7 P).trans (Eb k L)
 have r3:sS e k=(!k.2.isEmpty&&L.any (NT k)):=D5 k L
 have hP:P.length<=2:=ai (List.length_filterMap_le _ _) hL
 unfold JK nV
 rw [r3]
 let A:List (Fact d)->List (Fact d):=λr=>.n nL:: .m c1:: .n (d8 (f:=b7) (nA hP rfl)):: .m c2:: .v 4 (k9 kl)::r
 let B:List (Fact d):=[.q 1 r1,.v 4 (len_list (Mv (r:=λp=>bif lU p k then some (b7 p)else none) hP)),.d r2]
 cases q:k.2.isEmpty with
 | true=>exact run (A (.d ((QH k.2).trans (congrArg (!·) q))::B))
 | false=>exact run (A (.d ((QH k.2).trans (congrArg (!·) q)):: .n nL:: .m c3:: .v 4 (any_bools (NT k) L)::B))
end
noncomputable def NP(e:E):Prop:=∀(r:Fo) (O:List Nat),((tn e (kf e) r).nums dp dg O).Perm (dn e++r.nums dp dg O)
section
variable{a b c d N M:List Nat}{n m:Nat}
theorem ps(N:List Nat)(n:Nat):(N++[n]).Perm ([n]++N):=List.perm_append_comm
theorem NO(h:M.Perm (d++(N++[n]))):M.Perm ((d++[n])++N):=h.trans (cL d [n] N▸(ps N n).append_left d)
theorem Jk(h:M.Perm (a++(b++N))):M.Perm ((a++b)++N):=h.trans (.of_eq (cL a b N).symm)
theorem NP.sp{s:Option Nat}{p:E}(h:NP p)(r:Fo)(O:List Nat):((xP s p (kf p) r).nums dp dg O).Perm (dn p++(s.toList++r.nums dp dg O)):=match s with
 | none=>h r O
 | some m=>(h .nil (r.nums dp dg O++[m])).trans ((ps _ m).append_left _)
theorem QC(e:E):NP e:=by
 induction e with
 | nm=>exact λ_ _=>.refl _
 | this=>exact λ_ _=>.refl _
 | num=>exact λ_ _=>.refl _
 | fn=>exact λ_ _=>.refl _
 | wr k e n i=>exact λr O=>by cases k <;> exact i .nil _
 | cls e m f r n i=>exact λr O=>i .nil _
 | mem o c e n i=>exact λr O=>NO (i .nil _)
 | idx o t e n i=>exact λr O=>NO (by cases t <;> exact i (.nd _ _ _ _ _ .nil .nil) _)
 | un s e n i=>exact λr O=>NO (i .nil _)
 | upd b t n i=>exact λr O=>NO (i .nil _)
 | bin s p q n i1 i2=>exact λr O=>by cases s <;> exact Jk ((i1 (tn q (kf q) .nil) _).trans ((i2 .nil _).append_left _))
 | pick p q s n i1 i2 i3=>exact λr O=>Jk ((i1 (tn q (kf q) (tn s (kf s) .nil)) _).trans ((Jk ((i2 (tn s (kf s) .nil) _).trans ((i3 .nil _).append_left _))).append_left _))
 | asg k t v n i1 i2=>
  intro r O
  let N:=r.nums dp dg O
  have v1:((tn v (kf v) .nil).nums dp dg (N++[n])).Perm ((dn v++[n])++N):=NO (i2 .nil _)
  have mk:∀p,((tn v (kf v) .nil).nums dp dg (N++[n])++[p]).Perm ((dn v++([p]++[n]))++N):=λp=>(v1.append_right [p]).trans ((ps _ p).trans (by
   rw [cL,cL,cL];exact List.perm_append_comm_assoc [p] (dn v) ([n]++N)))
  cases k with
  | op o=>exact Jk ((i1 (tn v (kf v) .nil) _).trans (v1.append_left _))
  | p4 b p=>exact Jk ((i1 (.no .nil) _).trans ((mk p).append_left _))
  | p5 b x j p=>exact Jk ((i1 (.no .nil) _).trans ((mk p).append_left _))
  | p6 b p=>exact Jk ((i1 (.no .nil) _).trans ((mk p).append_left _))
 | call w o k f p q m n i1 i2 i3=>
  intro r O
  let N:=r.nums dp dg O
  have go:∀{D S:List Nat},((Ak.fo k p (kf p) q (kf q)).nums dp dg (N++[n])).Perm (D++(S++(N++[n])))->((tn (.call w o k f p q m n) (kf (.call w o k f p q m n)) r).nums dp dg O).Perm ((dn f++(D++(S++[n])))++N):=λ{D S} h=>
   Jk (by cases w <;> exact (i1 (.nd 71 aQ 0 m rj (k.fo p (kf p) q (kf q)) (.no .nil)) _).trans ((h.trans (by rw [cL];exact (NO (.refl _)).append_left D)).append_left _))
  cases k with
  | zero=>exact go (D:=[]) (S:=[]) (.refl _)
  | one s=>exact go (D:=dn p) (S:=s.toList) (i2.sp .nil _)
  | two s t=>exact go (D:=dn p++dn q) (S:=s.toList++t.toList) ((i2.sp _ _).trans (by
    rw [cL,cL]
    exact (((i3.sp .nil _).append_left _).trans (List.perm_append_comm_assoc s.toList (dn q) _)).append_left _))
theorem rk(e:E):(MH e).Perm (dn e):=(cY (dn e)▸QC e .nil []:((tn e (kf e) .nil).nums dp dg []).Perm (dn e))
end
theorem tS{s:Option Nat}{p:E}:NN (iP s p) s.toList:=match s with
 | none=>.nil
 | some m=>.one
theorem nX(e:E):NN (aE e) (dn e):=by
 induction e with
 | wr k e n i=>exact i
 | cls e m f r n i=>exact i
 | call w o k f p q m n i1 i2 i3=>
  refine i1.app (.app ?_ (.app ?_ .one))
  ·cases k with
   | zero=>exact .nil
   | one s=>exact i2
   | two s t=>exact i2.app i3
  ·cases k with
   | zero=>exact .nil
   | one s=>exact tS
   | two s t=>exact tS.app tS
 | asg k t v n i1 i2=>exact i1.app (i2.app (.app (by
   cases k with
   | op o=>exact .nil
   | _=>exact .one) .one))
 | bin s p q n i1 i2=>exact i1.app i2
 | pick p q r n i1 i2 i3=>exact i1.app (i2.app i3)
 | mem o c e n i=>exact i.app .one
 | idx o c e n i=>exact i.app .one
 | un s e n i=>exact i.app .one
 | upd b t n i=>exact i.app .one
 | _=>exact .nil
theorem jD{x y:Int}{l:List Int}(h:x<=y):insI x (y::l)=x::y::l:=if_pos h
theorem iA{x y:Int}{l:List Int}(h:¬x<=y):insI x (y::l)=y::insI x l:=if_neg h
theorem BB(x y:Int)(l:List Int):insI x (insI y l)=insI y (insI x l):=by
 have key:∀{x y:Int},x<=y->insI x (insI y l)=insI y (insI x l):=by
  induction l with
  | nil=>
   intro x y h
   by_cases k:y<=x
   ·rw [Int.le_antisymm h k]
   ·exact (jD h).trans (iA (l:=[]) k).symm
  | cons z l ih=>
   intro x y h
   by_cases e:y<=x
   ·rw [Int.le_antisymm h e]
   ·by_cases k:y<=z
    ·rw [jD k,jD h,jD (Int.le_trans h k),iA e,jD k]
    ·rw [iA k]
     by_cases j:x<=z
     ·rw [jD j,jD j,iA e,iA k]
     ·rw [iA j,iA j,iA k,ih h]
 exact (Int.le_total x y).elim key λh=>(key h).symm
theorem sortI_perm{l l':List Int}(h:l.Perm l'):sortI l=sortI l':=by
 induction h with
 | nil=>rfl
 | cons x _ ih=>exact congrArg (insI x) ih
 | swap x y l=>exact BB y x (sortI l)
 | trans _ _ h1 h2=>exact h1.trans h2
structure T9(u:List (Int×aa))(e:E):Prop where
 ok:Ok u e
 wt:wt e
 dn:(dn e).length < 64
noncomputable def WR(u:List (Int×aa))(e:E):Prop:=Ok u e->wt e->∀s∈aP e,Ok u s/\lC s
theorem Gh{u:List (Int×aa)}(e:E):WR u e:=by
 have app:∀{a b:List E},(∀s∈a,Ok u s/\lC s)->(∀s∈b,Ok u s/\lC s)->∀s∈a++b,Ok u s/\lC s:=λh1 h2 s h=>(List.mem_append.mp h).elim (h1 s) (h2 s)
 have one:∀{e:E},Ok u e->lC e->∀s∈[e],Ok u s/\lC s:=λo t=>bt ⟨o,t⟩
 induction e with
 | wr k e n i=>exact λo w=>i o.wr w
 | mem b c e n i=>exact λo w=>i o.mem w
 | idx b c e n i=>exact λo w=>i o.idx w
 | call v o k f p q m n i1 i2 i3=>
  intro O W
  refine app (i1 O.cf W.1) ?_
  cases k with
  | zero=>exact λs h=>nomatch h
  | one s=>exact i2 O.cp W.2.1
  | two s t=>exact app (i2 O.cp W.2.1) (i3 O.cq W.2.2)
 | asg k t v n i1 i2=>exact λO W=>app (i1 O.at W.2.1) (app (i2 O.av W.2.2) (one O (vf W.1)))
 | un s e n i=>cases s with
  | del=>exact λO W=>app (i O.un W.2) (one O ⟨rfl,bt W.1.1⟩)
  | _=>exact λO W=>i O.un W.2
 | upd b t n i=>exact λO W=>app (i O.upd W.2) (one O ⟨rfl,bt W.1⟩)
 | bin s p q n i1 i2=>exact λO W=>app (i1 O.bl W.1) (i2 O.br W.2)
 | pick p q r n i1 i2 i3=>exact λO W=>app (i1 O.p1 W.1) (app (i2 O.p2 W.2.1) (i3 O.p3 W.2.2))
 | _=>exact λ_ _ s h=>nomatch h
section
variable{d:Nat}{h:Hp}{k:Path}{u:List (Int×aa)}{e:E}
theorem kn(hk:k∈keys)(h:Hp):s8 h [46] (b7 k)=some (.str (dot k)):=ir (P:=λk=>s8 h [46] (b7 k)=some (.str (dot k))) hk rfl rfl rfl rfl rfl
noncomputable def W0(e:E):Prop:=(holds e).length<=sz e
theorem oW(e:E):W0 e:=by
 have ho:∀{o:Bool} {x:Option Path×Nat} {l:List (Option Path×Nat)} {c:Nat},l.length<=c->(Cm o x l).length<=c + 1:=λ{o x l c} h=>match o with
  | false=>Nat.le_succ_of_le h
  | true=>ee h
 induction e with
 | wr k e n ih=>exact Nat.le_succ_of_le ih
 | mem o c e n ih=>exact ho ih
 | idx o c e n ih=>exact Nat.le_succ_of_le (ho ih)
 | call w o k f p q m n ih _ _=>cases w with
  | true=>exact bP _
  | false=>exact ai (ho (ai ih (ai (aJ _ _) (aJ _ _)))) (dB (aI rfl:0 < 5) _)
 | _=>exact bP _
theorem nU(o:Ok u e):((holds e).map λx=>aa.tup [bk x.1,.int (x.2:Nat)]).length < LF:=d8 (bJ (oW e) (cK o.2 (aI rfl)))
theorem ri(r:Option Path):gj (bk r)=true:=match r with
 | none=>rfl
 | some _=>rfl
theorem wG(e:E)(h:Hp):ck h .in (b7 k) (.list ((holds e).map λx=>bk x.1))=some (wI k (holds e)):=Ac (g:=λx:Option Path×Nat=>x.1) k (holds e) h
theorem Qe(e:E)(k:Path)(h:Hp):ck h .eq (.str (ra e)) (.str (dot k))=some (ra e==dot k):=rfl
noncomputable def CL(h:Hp)(k:Path)(e:E):Gl:=cl F.gP [ax e,b7 k] h (.bool (tells e k),h)
theorem BD(e:E){x y:aa}:dy (ov (aM pg d) (.tup [2,3]) none (.v 2) [x,y,.undef,.undef]) ((holds e).map λx=>.tup [bk x.1,.int (x.2:Nat)]) h=some ((holds e).map λx=>bk x.1,h):=
 comp_map h (holds e) λz _=>jf rfl (run (d:=d) (G:=ex 0 (.v 2) [x,y,bk z.1,.int (z.2:Nat)] h (bk z.1,h)) [.u (ri z.1)])
theorem qf(hk:k∈keys)(o:Ok u e):(CL h k e).ok d:=by
 unfold CL tells
 cases q1:dz (aS e)==dot k with
 | true=>exact run [.q 1 (pX (aS e) k),.d q1]
 | false=>cases q2:ra e==dot k with
  | true=>exact run [.q 1 (pX (aS e) k),.d q1,.s 0 1,.v 0 (jF e),.v 6 (kn hk),.d q2]
  | false=>exact run [.q 1 (pX (aS e) k),.d q1,.s 0 1,.v 0 (jF e),.v 6 (kn hk),.d q2,.n (nU o),.m (BD (d:=d) (h:=h) e (x:=ax e) (y:=b7 k)),.q 1 (wG (k:=k) e)]
end
structure HW(f:Fx)(h:Hp):Prop where
 use:h.get U=some (.eg f.u)
 d:iN h
 iu:aY h W (.str cc)=some U
 ik:aY h W (.str eI)=some (b7 f.key)
 ih:aY h W (.str dO)=some f.gK.enc
theorem tl{n:Nat}(ih:∀x,hG n x=true->uU x x=true)(xs:List aa):xs.all (hG n)=true->pJ xs xs=true:=by
 induction xs with
 | nil=>exact λ_=>rfl
 | cons x xs i=>exact λh=>have h:=(Bool.and_eq_true _ _).mp h;show (uU x x&&pJ xs xs)=true by rw [ih x h.1,i h.2];rfl
theorem wO(n:Nat):∀x,hG n x=true->uU x x=true:=by
 have at':∀{α:Type} [BEq α] [LawfulBEq α] (a:α),(a==a)=true:=beq_self_eq_true
 induction n with
 | zero=>exact λx h=>match x,h with
  | .none,_=>rfl
  | .bool b,_=>at' b
  | .int i,_=>at' i
  | .str s,_=>at' s
 | succ n ih=>exact λx h=>match x,h with
  | .none,_=>rfl
  | .bool b,_=>at' b
  | .int i,_=>at' i
  | .str s,_=>at' s
  | .tup xs,h=>tl ih xs h
  | .list xs,h=>tl ih xs h
section
variable{d:Nat}{h:Hp}{f:Fx}{u:List (Int×aa)}{k:Path}{e:E}{x:aa}
theorem HW.up(H:HW f h){m:Nat}(hm:h.n<=m):HW f (h.up m):=⟨xC.trans H.use,λp hp=>eG (H.d p hp) hm,H.iu,H.ik,H.ih⟩
theorem eq_self(hx:hG 3 x=true)(h:Hp):ck h .eq x x=some true:=by
 show uO (hG 3 x) (bif hG 3 x&&hG 3 x then some (uU x x)else _)=_;rw [hx,wO 3 x hx];rfl
theorem ne_self(hx:hG 3 x=true)(h:Hp):ck h .ne x x=some false:=by
 show uO (hG 3 x) (vW (bif hG 3 x&&hG 3 x then some (uU x x)else _))=_;rw [hx,wO 3 x hx];rfl
noncomputable def NJ(N:List Nat):List Int:=N.map λn=>((n:Nat):Int)
noncomputable def HX(l:List Int):aa:=.list (l.map .int)
theorem HV(N:List Nat):intsOf (N.map λn=>.int (n:Nat))=some (NJ N):=by
 induction N with
 | nil=>rfl
 | cons n N ih=>exact congrArg (λo=>oS o (λys=>some ((n:Int)::ys)) none) ih
theorem sG{N:List Nat}(hl:N.length < 64)(h:Hp):tw h .sorted (.list (N.map λn=>.int (n:Nat)))=some (HX (sortI (NJ N))):=by
 show uO (Nat.blt (N.map _).length 64) (oS (intsOf _) _ none)=_;rw [List.length_map,Nat.blt_eq.mpr hl,HV];rfl
theorem Eu(l:List Int):hG 3 (HX l)=true:=by
 induction l with
 | nil=>rfl
 | cons x l ih=>exact ih
theorem NN.len{O:List aa}{N:List Nat}(h:NN O N):O.length=N.length:=by
 induction h with
 | nil=>rfl
 | cons _ ih=>exact congrArg (· + 1) ih
noncomputable def WU(e:E):Prop:=(aP e).length<=sz e
theorem GP(e:E):WU e:=by
 have app:∀{a b:List E} {x y},a.length<=x->b.length<=y->(a++b).length<=x + y:=λh k=>List.length_append▸eX h k
 have up:∀{a b c:Nat},a<=b->a<=b + c:=λh=>ai h (aJ _ _)
 have one:∀{a:List E} {s x},a.length<=x->(a++[s]).length<=x + 1:=λh=>app (b:=[_]) h (aO 1)
 induction e with
 | wr k e n i=>exact up i
 | mem b c e n i=>exact up i
 | idx b c e n i=>exact up i
 | call v o k f p q m n i1 i2 i3=>cases k with
  | zero=>exact up (up (up ((cY (aP f)).symm▸i1:(aP f++[]).length<=sz f)))
  | one s=>exact up (up (app i1 i2))
  | two s t=>exact up (Nat.add_assoc .. ▸app i1 (app i2 i3))
 | asg k t v n i1 i2=>exact ai (app i1 (one i2)) (dB (dB (aI rfl:0 < 7) _) _)
 | un s e n i=>cases s with
  | del=>exact one i
  | _=>exact up i
 | upd b t n i=>exact one i
 | bin s p q n i1 i2=>exact up (app i1 i2)
 | pick p q r n i1 i2 i3=>exact up (Nat.add_assoc .. ▸app i1 (app i2 i3))
 | _=>exact bP _
theorem I9{β:Type}{g:E->β}(o:Ok u e):((aP e).map g).length < LF:=d8 (bJ (GP e) (cK o.2 (aI rfl)))
noncomputable abbrev NM(e:E)(k:Path)(a b:aa):Env:=[W,AV,ax e,enc e,b7 k,.str (dot k),a,b,.undef,.undef,.undef,.undef,.undef,.undef,.undef,.undef]
noncomputable abbrev VB:ME:=.or [(.cmp .ne (.ite (.cmp .is (.v 7) (.c .none)) (.c (.int 0)) (.attr (.v 7) bj)) (.item (.v 2) (.c (.str bK)))),(.cmp .ne (.call F.jE [(.v 3),(.item (.v 0) (.c (.str cc)))]) (.item (.v 2) (.c (.str dm))))]
noncomputable def Uq(h:Hp)(k:Path)(e:E)(a:aa):Gl:=ex 13 VB (NM e k a (oV (h9 e))) h (.bool false,h)
theorem Ou(H:HW f h)(o:Ok f.u e){a:aa}:(Uq h k e a).ok (d+6):=by
 have hk:=EC (d:=d) (h:=h) H.use o
 have n2:∀h,ck h .ne (BE (jd e)) (BE (jd e))=some false:=ne_self (by cases jd e <;> rfl)
 have hs:∀h,aY h (ax e) (.str bK)=some (.int (gR e:Nat)):=λ_=>rfl
 unfold gR at hs
 unfold Uq
 revert hs
 cases h9 e with
 | none=>exact λhs=>run [.v 0 hs,.w 0 H.iu,.g hk,.q 1 n2]
 | some F=>exact λhs=>run [.v 0 hs,.q 1 (ne_self (x:=.int (bW F:Nat)) rfl),.w 0 H.iu,.g hk,.q 1 n2]
theorem uN(q:gj x=true):(gd (gj x) (aj x):HM aa) h=some (x,h):=congrArg (λb=>(gd b (aj x):HM aa) h) q
noncomputable def VK(h:Hp)(e:E)(m:Nat):Gl:=cl F.ki [W,AV,ax e] h (.bool true,h.up m)
theorem GY(X:f.key∈keys)(H:HW f h)(I:T9 f.u e):∃m,h.n<=m/\(VK h e m).ok (d+7):=by
 have o:=I.ok
 have hset:=Gh e o I.wt
 have hp:=rk e
 have n1:(MH e).length < 64:=hp.length_eq▸I.dn
 have l1:=(uS e).len
 have l2:=(nX e).len
 have n64:∀{a b:Nat},a=b->b < 64->a < LF:=λh k=>h▸cK k (aI rfl)
 have m1:h.n<=h.n + 2:=aJ _ _
 let h2:=h.up (h.n+2)
 obtain ⟨m2,hm2,es⟩:=GL (d:=d) (k:=f.key) (h:=h2) (e:=e) (H.up m1).use o (H.up m1).d hset
 have hm2:h.n<=m2:=ai m1 (Nat.le_of_lt hm2)
 have H2:=H.up hm2
 let v6:aa:=.list ((aP e).map (nV f.key))
 have n0:∀h,ck h .ne (HX (sortI (NJ (MH e)))) (HX (sortI (NJ (dn e))))=some false:=(sortI_perm (hp.map _):sortI (NJ (MH e))=sortI (NJ (dn e)))▸ne_self (Eu _)
 have c2:dy (ov (aM pg (d+7)) (.tup [10,11]) none (.call F.kj [(.v 4),(.v 11)]) (NM e f.key .undef .undef)) ((aP e).map bq) h2=some ((aP e).map (nV f.key),h2):=
  comp_map h2 (aP e) λs hs=>jf rfl (run (d:=d+7) (G:=ex 0 (.call F.kj [(.v 4),(.v 11)]) [W,AV,ax e,enc e,b7 f.key,.str (dot f.key),.undef,.undef,.undef,.undef,enc s,.list ((fM s).map cb),.undef,.undef,.undef,.undef] h2 (nV f.key s,h2)) [.g (Ah (h:=h2) X (hset s hs).1 (hset s hs).2)])
 have c3:dy (ov (aM pg (d+7)) (.v 12) none (.or [(.item (.v 12) (.c (.int 0))),(.item (.v 12) (.c (.int 1)))]) (NM e f.key v6 .undef)) ((aP e).map (nV f.key)) (h.up m2)=some ((aP e).map λs=>.bool (pH f.key s),h.up m2):=
  comp_map (h.up m2) (aP e) λs hs=>jf rfl (by unfold pH nV;cases lR s f.key <;> kernel_rfl)
 have c4:dy (ov (aM pg (d+7)) (.tup [13,14]) none (.v 13) (NM e f.key v6 (oV (h9 e)))) ((holds e).map λx=>.tup [bk x.1,.int (x.2:Nat)]) (h.up m2)=some ((holds e).map λx=>bk x.1,h.up m2):=
  comp_map (h.up m2) (holds e) λz _=>jf rfl (run (d:=d+7) (G:=ex 0 (.v 13) [W,AV,ax e,enc e,b7 f.key,.str (dot f.key),v6,oV (h9 e),.undef,.undef,.undef,.undef,.undef,bk z.1,.int (z.2:Nat),.undef] (h.up m2) (bk z.1,h.up m2)) [.u (ri z.1)])
 exact ⟨m2,hm2,run [.s 0 1,.w 0 H.ik,.v 6 (kn X),.g (wQ o H.d),.n (n64 l1 n1),.m (ly (i:=8) (C:=aM pg (d+7)) (env:=NM e f.key .undef .undef) h2 (λx h q=>uN q) (uS e)),.v 4 (sG n1),
  .n (n64 l2 I.dn),.m (ly (i:=9) (C:=aM pg (d+7)) (env:=NM e f.key .undef .undef) h2 (λx h q=>uN q) (nX e)),.v 4 (sG I.dn),.q 1 n0,
  .n (I9 (g:=bq) o),.m c2,.g es,.n (I9 (g:=nV f.key) o),.m c3,.v 4 (any_bools (pH f.key) (aP e)),.q 1 (ne_self (x:=.bool ((aP e).any (pH f.key))) rfl),.g (vE (h.up m2) o),.l (Ou (d:=d+1) (k:=f.key) (a:=v6) H2 o),
  .w 0 H2.iu,.g (ry (d:=d+1) (k:=f.key) H2.use o),.n (nU o),.m c4,.q 1 (wG (k:=f.key) e),.q 1 (ne_self (x:=.bool (wI f.key (holds e))) rfl),.g (pB (k:=f.key) H2.use o),.g (qf (h:=h.up m2) X o),.q 1 (ne_self (x:=.bool (tells e f.key)) rfl),.q 1 (eq_self (x:=.list [.int (bW e:Nat),.int (bW e:Nat)]) rfl)]⟩
end
theorem EK{C:jj}{h:Hp}{l:Env}{kvs kvs':List (Sx×aa)}{k:Sx}{x:aa}{xs:List aa}(hW:h.get W=some (.sd kvs))(hk:bZ kvs k=some x)(hr:isRef x=true)(hx:h.get x=some (.list xs))(hW2:(h.del x).get W=some (.sd kvs')):exec pg C (.fj 0 k) (W::l) h=some ((.next,W::l),(h.del x).put W (.sd (sset kvs k (.list xs)))):=by
 show (λo=>ie o (λkvs=>aL (fZ kvs k) λkvs=>rQ W λo=>ie o (λ_ h=>some ((Fl.next,W::l),h.put W (.sd kvs))) no) no h) (h.get W)=_
 rw [hW]
 refine bL (a:=sset kvs k (.list xs)) (h':=h.del x) ?_ ?_
 ·show (oS (bZ kvs k) _ _:HM (List (Sx×aa))) h=_
  rw [hk]
  show (bif isRef x then _ else _:HM _) h=_
  rw [hr]
  show (λo=>oS o (λo=>oS o.frozen (λv h=>some (sset kvs k v,h.del x)) no) no h) (h.get x)=_
  rw [hx];rfl
 ·show (ie ((h.del x).get W) _ _:HM FE) _=_
  rw [hW2];rfl
noncomputable def Gs(f:Fx)(s:Vs)(w r8 r9:Option (Nat×ak)):Hp:=⟨[w,some (0,.eg f.u),some (1,.list f.rd),some (2,.list f.wr),some (3,.list f.cl),some (4,.eg f.own),some (5,.eg s.met),
 some (7,.sd [(jy,s.r1.enc),(mG,s.r2.enc),(ym,.tup [.str jW,.int 1]),(gY,f.vt.enc)]),r8,r9,some (8,s.o0.enc),some (9,s.o1.enc),some (10,s.o2.enc)],[],s.n⟩
noncomputable def R1(f:Fx)(s:Vs):Hp:=Gs f s (some (6,.sd (sset (N6 f s) gg (.list s.bl)))) (some (f.i8,.list s.done)) none
noncomputable def R0(f:Fx)(s:Vs):Hp:=Gs f s (some (6,.sd ((N6 f s).take 14))) none none
noncomputable def Fx.at(f:Fx)(a b:Nat):Fx:={f with i8:=a,i9:=b}
noncomputable def Vs.z(s:Vs):Vs:={s with off:=.z,done:=[],bl:=[],n:=s.n + 2}
inductive Start(f:Fx)(s:Vs):Hp->Prop
 | r0:Start f s (R0 f s)
 | r1:Start f s (R1 f s)
section
variable{d n:Nat}{f:Fx}{s:Vs}{S h:Hp}{e:E}{r:aa×Hp}{v:V}{N ds:List Nat}{k:Path}
theorem UT:HW f (R1 f s):=⟨rfl,(λp hp=>nomatch hp),rfl,rfl,rfl⟩
theorem Start.hw(H:Start f s S):HW f S:=by
 cases H with
 | r0=>exact ⟨rfl,(λp hp=>nomatch hp),rfl,rfl,rfl⟩
 | r1=>exact UT
theorem M0{i:Nat}{x:ME}{y:aa}{b:List MS}{env:Env}{h':Hp}(e:ev pg (aM pg d) x env h=some (y,h'))(k:(bo b (env.set i y) h' r).ok d):(bo (.asg (.v i) x::b) env h r).ok d:=(congrFun qd h).trans (bL (bL e rfl) k)
noncomputable def Je(e:E)(k:Path)(a b c x y:aa):Env:=[W,AV,ax e,enc e,.str (dot k),a,b,c,x,y,.undef,.undef,.undef,.undef,.undef,.undef]
noncomputable abbrev yV:=jT
noncomputable def Sv(S:Hp)(e:E)(r:aa×Hp):Gl:=cl F.lT [W,AV,ax e] S r
noncomputable abbrev To:ME:=.join (.c (.str gx)) (.item (.v 0) (.c (.str eI)))
noncomputable def Sw(e:E):Env:=[W,AV,ax e,enc e,.undef,.undef,.undef,.undef,.undef,.undef,.undef,.undef,.undef,.undef,.undef,.undef]
theorem Dm(X:f.key∈keys)(H:Start f s S)(q:(bo (yV.drop 5) (Je e f.key .undef .undef .undef .undef .undef) (R (f.at s.n (s.n+1)) s.z) r).ok d):(Sv S e r).ok d:=
 have j:ev pg (aM pg d) To (Sw e) S=some (.str (dot f.key),S):=run (G:=ex 0 To (Sw e) S (.str (dot f.key),S)) [.w 0 H.hw.ik,.v 6 (kn X)]
 (show (Sv S e r).val d=(bo (.asg (.v 4) To::yV.drop 2) (Sw e) S r).val d by kernel_rfl).trans (M0 j (match S,H with
 | _,.r0=>(show (bo (yV.drop 2) (Je e f.key .undef .undef .undef .undef .undef) (R0 f s) r).val d=(bo (yV.drop 5) (Je e f.key .undef .undef .undef .undef .undef) (R (f.at s.n (s.n+1)) s.z) r).val d by kernel_rfl).trans q
 | _,.r1=>(show (bo (yV.drop 2) (Je e f.key .undef .undef .undef .undef .undef) (R1 f s) r).val d=(bo (yV.drop 5) (Je e f.key .undef .undef .undef .undef .undef) (R (f.at s.n (s.n+1)) s.z) r).val d by kernel_rfl).trans q))
theorem xk{α:Type}(g:α->Int)(x:Int)(l:List α):xx (.int x) (l.map λt=>.int (g t))=some (l.any λt=>g t==x):=by
 induction l with
 | nil=>rfl
 | cons a l ih=>show oS (some (g a==x)) (λa=>oS (xx (.int x) (l.map λt=>.int (g t))) (λb=>some (a ||b)) none) none=_;rw [ih];rfl
theorem Ab{N:List Nat}{m:Nat}(h:m∈N):xx (.int (m:Nat)) (N.map λn=>.int (n:Nat))=some true:=(xk (λn:Nat=>(n:Int)) m N).trans (congrArg some (List.any_eq_true.mpr ⟨m,h,beq_self_eq_true _⟩))
theorem my{N:List Nat}{m:Nat}(k:m∈N)(h:Hp):ck h .nr (.int (m:Nat)) (.list (N.map λn=>.int (n:Nat)))=some false:=congrArg vW (Ab k)
noncomputable abbrev qx(N:List Nat):aa:=.list (N.map λn=>.int (n:Nat))
noncomputable def TO(e:E)(k:Path)(v:V)(N:List Nat)(h:Hp)(bs:List aa)(a b:aa)(r:aa×Hp):Gl:=fo 8 yV bs (Je e k v.enc (qx N) a b .undef) h r
noncomputable def R7(d:Nat)(h:Hp)(e:E)(k:Path)(v:V)(N:List Nat)(bs:List aa):Prop:=∀n a b,h.n<=n->∃m,h.n<=m/\(TO e k v N (h.up n) bs a b (.bool true,h.up m)).ok d
theorem M6(X:Cx f)(H:HW f h){b:aa}{bs:List aa}{M:List Nat}(hN:∀m∈M,m∈N)(g:GB f M b)(T:R7 (d+7) h e f.key v N bs):R7 (d+7) h e f.key v N (b::bs):=λn a8 a9 hn=>by
 have Hn:=H.up hn
 cases g with
 | @set x h1 h2 h3 h4=>
  have up:∀{j},h.n<=n + j:=λ{j}=>ai hn (aJ n j)
  have o1:=t8 (d:=d+1) (k:=f.key) Hn.use h3 h2 Hn.d
  have o2:=qL (d:=d+1) (k:=f.key) (H.up (up (j:=2))).use h3 h2 (H.up (up (j:=2))).d
  have o3:=zU (d:=d+3) (k:=f.key) X.key h3 h2 (H.up (up (j:=4))).d
  have i:=my (hN _ h1)
  cases q1:lR x f.key with
  | true=>obtain ⟨m,hm,t⟩:=T (n+2) (enc x) (.str gC) up;exact ⟨m,hm,run [.q 1 i,.g o1,.b q1,.b q1,.l t]⟩
  | false=>cases q2:jw x f.key with
   | true=>obtain ⟨m,hm,t⟩:=T (n+4) (enc x) (.str gC) up;exact ⟨m,hm,run [.q 1 i,.g o1,.b q1,.g o2,.b q2,.b q2,.l t]⟩
   | false=>
    rw [q1,q2]at h4
    obtain ⟨m,hm,t⟩:=T (n+6) (enc x) (.str gC) up
    exact ⟨m,hm,run [.q 1 i,.g o1,.b q1,.g o2,.b q2,.g o3,.b h4,.l t]⟩
 | @call w o k g p q m' j h1 h2 h3=>
  have c1:=J0 (d:=d+5) (w:=w) (o:=o) (a:=k) (p:=p) (q:=q) (m:=m') (j:=j) Hn.use h2
  rw [h3]at c1
  obtain ⟨m,hm,t⟩:=T n (enc (.call w o k g p q m' j)) (.str kB) hn
  exact ⟨m,hm,run [.q 1 (my (hN _ h1)),.g c1,.l t]⟩
 | @read r h1 h2 h3=>
  have c1:=Jf (d:=d+2) (h:=h.up n) (H:=f.gK) h1
  unfold Sy at c1
  rw [h3]at c1
  obtain ⟨K,a,ks,fl,er⟩:=r.nd h1
  rw [er]at c1 ⊢
  obtain ⟨m,hm,t⟩:=T n (nd K a ks fl r.bW) (.str gv) hn
  exact ⟨m,hm,run [.q 1 (my (hN _ h2)),.w 0 Hn.ih,.g c1,.l t]⟩
theorem Q2(X:Cx f)(H:HW f h){M:List Nat}(hN:∀m∈M,m∈N)(T:R7 (d+7) h e f.key v N [])(bs:List aa):(∀b∈bs,GB f M b)->R7 (d+7) h e f.key v N bs:=by
 induction bs with
 | nil=>exact λ_=>T
 | cons b bs ih=>exact λg=>M6 X H hN (g b aF) (ih λb hb=>g b (bB _ hb))
end
theorem qq(n:Nat):∀a:Nat,gV (a:Int) n=(List.range' a n).map λi=>.int (i:Nat):=by
 induction n with
 | zero=>exact λ_=>rfl
 | succ n ih=>exact λa=>congrArg (aa.int a::·) (ih (a + 1))
section
variable{d n:Nat}{f:Fx}{s:Vs}{S h:Hp}{e F:E}{r:aa×Hp}{v:V}{N ds:List Nat}{k:Path}
theorem rq{n:Nat}(hn:n < LF):decide (-1048576 < (n:Int)/\(n:Int) < 1048576)=true:=decide_eq_true (p:= -1048576 < (n:Int)/\(n:Int) < 1048576) ⟨Int.lt_of_lt_of_le (by decide) (Int.natCast_nonneg n),Int.ofNat_lt.mpr hn⟩
noncomputable def Sz(x:aa):HM aa:=x.gu (λn=>gd (decide (-1048576 < n/\n < 1048576)) (aj (aa.rT 0 n.toNat))) no
theorem VO{i:Int}:Sz (.int i)=gd (decide (-1048576 < i/\i < 1048576)) (aj (aa.rT 0 i.toNat)):=rfl
theorem VN{n:Nat}(hn:n < LF):Sz (.int (n:Nat)) h=some (.rT 0 (n:Int).toNat,h):=(congrFun VO h).trans (congrArg (λb=>(gd b (aj (aa.rT 0 (n:Int).toNat)):HM aa) h) (rq hn))
theorem KZ{C:jj}{a:ME}{env:Env}{h':Hp}{n:Nat}(e:ev pg C a env h=some (.int (n:Nat),h'))(hn:n < LF):ev pg C (.gW a) env h=some (.rT 0 n,h'):=(yT (k:=Sz) e).trans (VN hn)
theorem Iz{C:jj}{t:ji}{it elt:ME}{test:Option ME}{env:Env}{h1 h2:Hp}{v:aa}{xs ys:List aa}(e1:ev pg C it env h=some (v,h1))(e2:itemsOf v=some xs)(hl:xs.length < LF)(e3:dy (ov C t test elt env) xs h1=some (ys,h2)):ev pg C (.comp .f t it test elt) env h=some (.list ys,h2):=
 bL e1 (by show (hY (itemsOf v) _:HM aa) h1=_;rw [e2];exact (congrFun (ql hl) h1).trans (bL e3 rfl))
noncomputable abbrev vN(e:E)(k:Path)(v:V)(N:List Nat)(a b x y:aa)(z:Env):Env:=W::AV::ax e::enc e:: .str (dot k)::v.enc::qx N::a::b::x::y::z
noncomputable abbrev z5:Env:=[.undef,.undef,.undef,.undef,.undef]
noncomputable abbrev S1(f:Fx)(s:Vs)(n:Nat):Hp:=(R1 f s).up n
theorem JY:(S1 f s n).get (.bw 8 f.i8)=some (.list s.done):=congrArg (λb=>bif b then some (ak.list s.done)else none) (NS f.i8)
noncomputable abbrev Uu:ME:=.gW (.b1 .len (.item (.v 0) (.c (.str gw))))
noncomputable abbrev Uk:ME:=.cmp .eq (.item (.item (.v 0) (.c (.str gw))) (.v 12)) (.attr (.v 9) bj)
noncomputable abbrev N8:ME:=.item (.comp .f (.v 12) Uu (some Uk) (.v 12)) (.neg (.c (.int 1)))
noncomputable abbrev TX:ME:=.not (.b1 .all (.comp .f (.v 13) (.slice (.item (.v 0) (.c (.str gw))) none (some (.v 10))) none (.cmp .in (.v 13) (.item (.item (.v 0) (.c (.str qO))) (.attr (.v 9) bj)))))
noncomputable def dI(ds:List Nat):List aa:=ds.map λn=>.int (n:Nat)
noncomputable def isAt(ds:List Nat)(m i:Nat):Bool:=(((ds.getD i 0:Nat):Int)==((m:Nat):Int))
theorem getD_at{i:Nat}(hi:i < ds.length):ds.getD i 0=ds[i]:=by rw [List.getD_eq_getElem?_getD,List.getElem?_eq_getElem hi];rfl
inductive Ri(d:Nat)(f:Fx)(s:Vs)(n:Nat)(E1:aa->Env):Prop | mk (j:Nat):(ex 14 N8 (E1 .undef) (S1 f s n) (.int (j:Nat),S1 f s n)).ok d->(ex 13 TX (E1 (.int (j:Nat))) (S1 f s n) (.bool false,S1 f s n)).ok d->Ri d f s n E1
theorem Lf{a b:aa}(hds:s.done=dI ds)(hl:ds.length < 1000000)(hm:bW F∈ds)(hP:Pre (bW F) (dn F) ds)(hO:cU f.own (bW F:Int)=some (qx (dn F))):Ri d f s n λy=>vN e k v N a b (enc F) y z5:=by
 have hlen:s.done.length=ds.length:=hds▸List.length_map _
 have dn1:=JY (n:=n) (f:=f) (s:=s)
 have lLF:ds.length < LF:=cK hl (aI rfl)
 let E1:=λy=>vN e k v N a b (enc F) y z5
 let r:Nat->Option aa:=λi=>bif isAt ds (bW F) i then some (.int (i:Nat))else none
 let L:=(List.range' 0 ds.length).filterMap r
 have at':∀i,i < ds.length->∀h',om h' (.bw 8 f.i8)=some s.done->aY h' (.bw 8 f.i8) (.int (i:Nat))=some (.int (ds.getD i 0:Nat)):=λi hi h' e1=>by
  refine (nQ (k:=(i:Nat)) e1 ⟨Int.lt_of_lt_of_le (by decide) (Int.natCast_nonneg i),Int.ofNat_lt.mpr (cK (cK hi hl) (aI rfl))⟩).trans ?_
  have hi':i < s.done.length:=hlen▸hi
  refine (s9 hi').trans ?_
  rw [getD_at hi]
  have:s.done[i]?=some (.int (ds[i]:Nat)):=by rw [hds];exact (List.getElem?_map).trans (by rw [List.getElem?_eq_getElem hi];rfl)
  exact (List.getElem?_eq_getElem hi').symm.trans this
 have sq:om (S1 f s n) (.bw 8 f.i8)=some s.done:=congrArg (λo=>oL o some none) dn1
 have c0:ev pg (aM pg d) Uu (E1 .undef) (S1 f s n)=some (.rT 0 ds.length,S1 f s n):=by
  have l0:tw (S1 f s n) .len (.bw 8 f.i8)=some (.int (ds.length:Nat)):=(congrArg (λo=>oL o (λxs=>rP xs (aa.int xs.length)) (ie o (λxs=>rP xs (aa.int xs.length)) none)) dn1).trans ((gU (hlen.symm▸lLF)).trans (congrArg (λn:Nat=>some (aa.int n)) hlen))
  exact KZ (run (d:=d) (G:=ex 0 (.b1 .len (.item (.v 0) (.c (.str gw)))) (E1 .undef) (S1 f s n) (.int (ds.length:Nat),S1 f s n)) [.w 4 l0]) lLF
 have c1:dy (ov (aM pg d) (.v 12) (some Uk) (.v 12) (E1 .undef)) (gV 0 ds.length) (S1 f s n)=some (L,S1 f s n):=qq ds.length 0▸nZ (S1 f s n) (r:=r) (List.range' 0 ds.length) λi hi=>
  yJ (t:=.v 12) (env':=vN e k v N a b (enc F) .undef [.undef,.int (i:Nat),.undef,.undef,.undef]) (q:=isAt ds (bW F) i) rfl (run [.s 0 1,.w 0 (at' i (eG (List.mem_range'_1.mp hi).2 (Nat.le_of_eq (Nat.zero_add _))) _ sq)]) rfl
 have hL:∃L' j,L=L'++[.int (j:Nat)]/\j < ds.length/\isAt ds (bW F) j=true:=by
  obtain ⟨i,hi,e1⟩:=List.mem_iff_getElem.mp hm
  have hne:L≠[]:=List.ne_nil_of_mem (a:=.int (i:Nat)) (List.mem_filterMap.mpr ⟨i,List.mem_range'_1.mpr ⟨bP _,(Nat.zero_add _).symm▸hi⟩,by
   show (bif isAt ds (bW F) i then some (aa.int (i:Nat))else none)=_
   unfold isAt;rw [getD_at hi,e1,beq_self_eq_true];rfl⟩)
  obtain ⟨j,hj,e2⟩:=List.mem_filterMap.mp (List.getLast_mem hne)
  have hj:=eG (List.mem_range'_1.mp hj).2 (Nat.le_of_eq (Nat.zero_add _))
  have e2:(bif isAt ds (bW F) j then some (aa.int (j:Nat))else none)=some (L.getLast hne):=e2
  cases q:isAt ds (bW F) j with
  | false=>rw [q]at e2;exact nomatch e2
  | true=>rw [q]at e2;exact ⟨L.dropLast,j,(ay e2).symm▸(List.dropLast_concat_getLast hne).symm,hj,q⟩
 obtain ⟨L',j,hj,hjl,hjt⟩:=hL
 have nR:(gV 0 ds.length).length < LF:=(qq ds.length 0).symm▸d8 (List.length_range'.symm▸lLF)
 have e10:(ex 14 N8 (E1 .undef) (S1 f s n) (.int (j:Nat),S1 f s n)).ok d:=bL (Iz c0 rfl nR c1) (bL (show ev pg (aM pg d) (.neg (.c (.int 1))) (E1 .undef) (S1 f s n)=some (.int (-1),S1 f s n)from rfl) (Dt ((nQ (a:=.list L) rfl (by decide)).trans (hj▸qV L' _))))
 refine ⟨j,e10,?_⟩
 have hd:s.done.take j=(ds.take j).map λn=>.int (n:Nat):=hds▸List.map_take.symm
 have sl:eK (S1 f s n) (.bw 8 f.i8) .none (.int (j:Nat))=some (qx (ds.take j)):=by
  refine (congrArg (λo=>oL o (λxs=>rP xs (aa.list (j8 xs none (some (j:Int))))) none) dn1).trans ((gU (hlen.symm▸lLF)).trans (congrArg (λl=>some (aa.list l)) (Eq.trans ?_ hd)))
  show (s.done.drop 0).take ((if (j:Int) < 0 then _ else min (j:Int).toNat s.done.length) - 0)=_
  rw [if_neg (Int.not_lt.mpr (Int.natCast_nonneg j)),Int.toNat_natCast,Nat.min_eq_left (hlen▸Nat.le_of_lt hjl)];rfl
 have own:∀m∈ds.take j,m∈dn F:=hP (ds.take j) (ds.drop (j+1)) (by
  unfold isAt at hjt;rw [getD_at hjl]at hjt
  have e1:ds[j]=bW F:=Int.ofNat.inj (eq_of_beq hjt)
  exact (List.take_append_drop j ds).symm.trans (congrArg (ds.take j++·) ((List.drop_eq_getElem_cons hjl).trans (congrArg (·::_) e1))))
 have hO':aY (S1 f s n) (.bw 5 4) (.int (bW F:Nat))=some (qx (dn F)):=hO
 have c2:dy (ov (aM pg d) (.v 13) none (.cmp .in (.v 13) (.item (.item (.v 0) (.c (.str qO))) (.attr (.v 9) bj))) (E1 (.int (j:Nat)))) ((ds.take j).map λn=>.int (n:Nat)) (S1 f s n)=some ((ds.take j).map λn=>.bool true,S1 f s n):=
  comp_map (S1 f s n) (ds.take j) λm hm=>jf rfl (run (d:=d) (G:=ex 0 (.cmp .in (.v 13) (.item (.item (.v 0) (.c (.str qO))) (.attr (.v 9) bj))) (vN e k v N a b (enc F) (.int (j:Nat)) [.undef,.undef,.int (m:Nat),.undef,.undef]) (S1 f s n) (.bool true,S1 f s n)) [.s 0 1,.w 0 hO',.p 1 (Ab (own m hm))])
 have ht:(ds.take j).all (λ_=>true)=true:=List.all_eq_true.mpr λ_ _=>rfl
 have al:=λh=>ht▸all_bools (λ_=>true) (ds.take j) h
 exact run [.w 5 sl,.n (d8 (f:=λn:Nat=>aa.int n) (bJ (List.length_take_le' j ds) lLF)),.m c2,.v 4 al]
end
theorem BH{α:Type}(p:α->Bool)(c:aa)(L:List α):(L.filterMap λx=>bif p x then some c else none)=(L.filter p).map λ_=>c:=by
 induction L with
 | nil=>rfl
 | cons x L ih=>rw [List.filterMap_cons,List.filter_cons,ih];cases p x <;> rfl
theorem zi{α:Type}(p:α->Bool)(L:List α)(h:Hp):tw h .any (.list (L.filterMap λx=>bif p x then some (.bool false)else none))=some (.bool false):=
 BH p (.bool false) L▸(any_bools (λ_=>false) (L.filter p) h).trans (congrArg (λb=>some (aa.bool b)) (List.any_eq_false.mpr λ_ _=>Bool.false_ne_true))
section
variable{d n:Nat}{f:Fx}{s:Vs}{S h:Hp}{e:E}{r:aa×Hp}{v:V}{N ds:List Nat}{k:Path}{a b:aa}
noncomputable abbrev Vy:ME:=.and [(.cmp .eq (.item (.v 0) (.c (.str d9))) (.c (.int 0))),(.cmp .ne (.v 5) (.tup [(.c (.str pj)),(.c (.int 1))])),(.call F.gm [(.v 3),(.v 4),(.item (.v 0) (.c (.str cc)))])]
noncomputable def Vz(f:Fx)(s:Vs)(n:Nat)(e:E)(v:V)(N:List Nat)(a b x y:aa)(q:Bool):Gl:=ex 13 Vy (vN e f.key v N a b x y z5) (S1 f s n) (.bool q,S1 f s n)
inductive Vc(d:Nat)(f:Fx)(s:Vs)(n:Nat)(e:E)(v:V)(N:List Nat)(a b:aa):Prop | mk (q:Bool):(q=true->s.off= .z/\v≠ .u true)->(∀x y,(Vz f s n e v N a b x y q).ok d)->Vc d f s n e v N a b
theorem N9(o:Ok f.u e):Vc (d+6) f s n e v N a b:=by
 have c:=ry (d:=d) (k:=f.key) (h:=S1 f s n) (u:=f.u) rfl o
 cases q:s.off.n==0 with
 | false=>exact ⟨false,(λh=>nomatch h),λx y=>run [.d q]⟩
 | true=>cases q1: !uU v.enc (V.enc (.u true))with
  | false=>exact ⟨false,(λh=>nomatch h),λx y=>run [.d q,.d q1]⟩
  | true=>exact ⟨wI f.key (holds e),(λ_=>⟨(bN q).1,λe=>nomatch (e▸q1:(!uU (V.enc (.u true)) (V.enc (.u true)))=true)⟩),λx y=>run [.d q,.d q1,.g c]⟩
noncomputable abbrev VU:ME:=.cmp .eq (.v 14) (.item (.v 0) (.c (.str eI)))
noncomputable abbrev UE:ME:=.get (.item (.v 0) (.c (.str wu))) (.v 15) (.c (.bool true))
theorem qy(Hm:Hf e s)(x y:aa):dy (ov (aM pg d) (.tup [14,15]) (some VU) UE (vN e f.key v N a b x y z5)) ((holds e).map λx=>.tup [bk x.1,.int (x.2:Nat)]) (S1 f s n)=some ((holds e).filterMap λx=>bif dz x.1==dot f.key then some (.bool false)else none,S1 f s n):=
 nZ (S1 f s n) (holds e) λz hz=>yJ (d:=d) (env':=vN e f.key v N a b x y [.undef,.undef,.undef,bk z.1,.int (z.2:Nat)]) rfl (run [.u (ri z.1),.q 1 (pX z.1 f.key)])
  (run (d:=d) (G:=ex 0 UE (vN e f.key v N a b x y [.undef,.undef,.undef,bk z.1,.int (z.2:Nat)]) (S1 f s n) (.bool false,S1 f s n)) [.w 3 (congrArg (λo:Option aa=>some (o.getD (.bool true))) (Hm z hz):yF (S1 f s n) (.bw 6 5) (.int (z.2:Nat)) (.bool true)=some (.bool false))])
theorem H4(hds:s.done=dI ds)(m:Nat):ck (S1 f s n) .in (.int (m:Nat)) (.bw 8 f.i8)=some (ds.any λt=>((t:Nat):Int)==((m:Nat):Int)):=
 (congrArg (λo=>oS (oL o some none) (xx (.int (m:Nat))) <| ie o (λkvs=>none) (oF o (λkvs=>some (cU kvs (m:Nat)).isSome) none)) (JY (n:=n))).trans (hds▸xk (λn:Nat=>(n:Int)) m ds)
theorem M7(o:Ok f.u e)(hds:s.done=dI ds)(hl:ds.length < 1000000)(P:Sp e ds)(Ow:∀F,h9 e=some F->cU f.own (bW F:Int)=some (qx (dn F)))(Hm:s.off= .z->v≠ .u true->Hf e s)(a b:aa):(TO e f.key v N (S1 f s n) [] a b (.bool true,S1 f s n)).ok (d+6):=by
 have sp:=vE (d:=d+5) (S1 f s n) o
 unfold CW at sp
 obtain ⟨q,hq,tz⟩:=N9 (d:=d) (f:=f) (s:=s) (n:=n) (v:=v) (N:=N) (a:=a) (b:=b) o
 have no:h9 e=none->(TO e f.key v N (S1 f s n) [] a b (.bool true,S1 f s n)).ok (d+6):=λhs=>by
  rw [hs]at sp
  cases q with
  | false=>exact run [.g sp,.s 13 1,.l (tz .none .undef)]
  | true=>have M:=Hm (hq rfl).1 (hq rfl).2;exact run [.g sp,.s 13 1,.l (tz .none .undef),.n (nU o),.m (qy (d:=d+6) (f:=f) (n:=n) (v:=v) (N:=N) (a:=a) (b:=b) M .none .undef),.v 4 (zi (λx:Option Path×Nat=>dz x.1==dot f.key) (holds e))]
 cases hs:h9 e with
 | none=>exact no hs
 | some F=>
  rw [hs]at sp
  have i:=H4 (f:=f) (n:=n) hds (bW F)
  cases q9:ds.any λt=>((t:Nat):Int)==((bW F:Nat):Int)with
  | false=>
   rw [q9]at i
   cases q with
   | false=>exact run [.g sp,.s 1 1,.p 1 i,.l (tz (enc F) .undef)]
   | true=>have M:=Hm (hq rfl).1 (hq rfl).2;exact run [.g sp,.s 1 1,.p 1 i,.l (tz (enc F) .undef),.n (nU o),.m (qy (d:=d+6) (f:=f) (n:=n) (v:=v) (N:=N) (a:=a) (b:=b) M (enc F) .undef),.v 4 (zi (λx:Option Path×Nat=>dz x.1==dot f.key) (holds e))]
  | true=>
   rw [q9]at i
   obtain ⟨t,ht,et⟩:=List.any_eq_true.mp q9
   obtain ⟨j,e1,e2⟩:=Lf (d:=d+6) (e:=e) (k:=f.key) (v:=v) (N:=N) (a:=a) (b:=b) (n:=n) hds hl (Int.ofNat.inj (eq_of_beq et)▸ht) (P F hs) (Ow F hs)
   cases q with
   | false=>exact run [.g sp,.s 1 1,.p 1 i,.l e1,.l e2,.l (tz (enc F) (.int j))]
   | true=>have M:=Hm (hq rfl).1 (hq rfl).2;exact run [.g sp,.s 1 1,.p 1 i,.l e1,.l e2,.l (tz (enc F) (.int j)),.n (nU o),.m (qy (d:=d+6) (f:=f) (n:=n) (v:=v) (N:=N) (a:=a) (b:=b) M (enc F) (.int j)),.v 4 (zi (λx:Option Path×Nat=>dz x.1==dot f.key) (holds e))]
inductive Vg(d:Nat)(f:Fx)(s:Vs)(S:Hp)(e:E):Prop | mk (i j:Nat) (s':Vs) (m:Nat):s'.n<=m->(Sv S e (.bool true,S1 (f.at i j) s' m)).ok d->s'.met.length<=s.met.length + (xw e).c->Vg d f s S e
theorem KQ(X:Cx f)(hS:Start f s S)(I:T9 f.u e)(hN:(all e).Nodup)(hd:4 * dep e + 8<=d + 6)(Ow:∀F,h9 e=some F->cU f.own (bW F:Int)=some (qx (dn F)))(hm:s.met.length + (xw e).c<=900000):Vg (d+7) f s S e:=by
 have o:=I.ok
 let f':=f.at s.n (s.n + 1)
 have X':Cx f':=⟨X.key,X.nums,X.len⟩
 obtain ⟨v,s1,ds,g⟩:=(Qn X' e o I.wt hN).1 (d+6) s.z hd ((Nat.zero_add s.met.length).symm▸hm:0 + s.met.length + _<=_)
 have hds:s1.done=dI ds:=g.ext.done
 have hcn:cnt s1<=s.met.length + (xw e).c:=ai g.ext.cn (Nat.le_of_eq (congrArg (· + (xw e).c) (Nat.zero_add s.met.length)))
 have hl:ds.length < 1000000:=bJ (ai ((congrArg List.length hds).trans (List.length_map _)▸ai (aJ _ _) (aJ _ _)) (ai hcn hm)) (aI rfl)
 obtain ⟨bs,hb1,hb2⟩:=g.ext.bl
 have hb1:s1.bl=bs:=hb1
 have H2:HW f' (S1 f' s1 (s1.n+2)):=UT.up (aJ s1.n 2)
 have hN2:∀m∈(xw e).N,m∈MH e:=λm h=>(rk e).mem_iff.mpr ((vr e).n m h)
 obtain ⟨m,hm1,lp⟩:=Q2 (d:=d) (v:=v) X' H2 hN2 (λn a b hn=>⟨n,hn,M7 (d:=d+1) (f:=f') o hds hl g.sp Ow g.hf a b⟩) s1.bl (hb1.symm▸hb2) (s1.n+2) .undef .undef (aO _)
 have r1:=g.run
 have gf:∀l,exec pg (aM pg (d+7)) (.fj 0 gg) (W::l) ((R f' s1).up (s1.n+2))=some ((.next,W::l),S1 f' s1 (s1.n+2)):=λl=>EK (h:=(R f' s1).up (s1.n+2)) (kvs:=N6 f' s1) (x:=.bw 9 f'.i9) rfl rfl rfl (yU (f:=f') (s:=s1)) rfl
 have n1:(QB e).length < LF:=(uS e).len▸(rk e).length_eq▸cK I.dn (aI rfl)
 have H1:iN (R f' s1):=λp hp=>nomatch hp
 exact ⟨s.n,s.n + 1,s1,m,ai (aJ _ 2) hm1,Dm X.key hS (run [.g r1,.g (wQ o H1),.n n1,.m (ly (i:=11) (C:=aM pg (d+7)) (env:=Je e f.key v.enc .undef .undef .undef .undef) ((R f' s1).up (s1.n+2)) (λx h q=>uN q) (uS e)),.t (gf (Je e f.key v.enc (qx (MH e)) .undef .undef .undef).tail),.l lp]),ai (hX _ _) hcn⟩
end
noncomputable def R3(f:Fx)(s:Vs)(kvs:List (Sx×aa))(r2 r4:Option (Nat×ak))(m:Nat):Hp:=⟨[some (6,.sd kvs),some (0,.eg f.u),r2,none,r4,some (4,.eg f.own),some (5,.eg s.met),
 some (7,.sd [(jy,s.r1.enc),(mG,s.r2.enc),(ym,.tup [.str jW,.int 1]),(gY,f.vt.enc)]),some (f.i8,.list s.done),none,some (8,s.o0.enc),some (9,s.o1.enc),some (10,s.o2.enc)],[],m⟩
noncomputable def Ue(f:Fx)(s:Vs):List (Sx×aa):=sset (sset (N6 f s) gg (.list s.bl)) ja (.list f.wr)
noncomputable def Ud(f:Fx)(s:Vs):List (Sx×aa):=sset (Ue f s) iv (.list f.rd)
noncomputable def Vq(f:Fx)(s:Vs):List (Sx×aa):=sset (Ud f s) lb (.list f.cl)
noncomputable def IT(f:Fx)(s:Vs)(m:Nat):Hp:=R3 f s (Ue f s) (some (1,.list f.rd)) (some (3,.list f.cl)) m
noncomputable def R5(f:Fx)(s:Vs)(m:Nat):Hp:=R3 f s (Ud f s) none (some (3,.list f.cl)) m
noncomputable def xo(f:Fx)(s:Vs)(m:Nat):Hp:=R3 f s (Vq f s) none none m
noncomputable abbrev TQ:=iC
noncomputable def RA(k:Path)(a4 a5 a6 a7 a8 a9 a10 a11 a12 a13 a14 a15 a16 a17:aa):Env:=[W,AV,b7 k,.str (dot k),a4,a5,a6,a7,a8,a9,a10,a11,a12,a13,a14,a15,a16,a17,.undef,.undef]
section
variable{d m n j:Nat}{f:Fx}{s:Vs}{h:Hp}{e g p q:E}{k:Path}{w o:Bool}{a:Ak}
theorem Tu:HW f (IT f s m):=⟨rfl,(λp hp=>nomatch hp),rfl,rfl,rfl⟩
theorem Tt:HW f (xo f s m):=⟨rfl,(λp hp=>nomatch hp),rfl,rfl,rfl⟩
noncomputable def Ro(d:Nat)(f:Fx)(s:Vs)(i:Nat)(xs:List aa)(env:Env)(h:Hp):Prop:=∃m,(fo i TQ xs env h (.bool true,xo f s m)).ok d
noncomputable def Sb(k:Path)(a b:aa):Env:=RA k a b .undef .undef .undef .undef .undef .undef .undef .undef .undef .undef .undef .undef
theorem N5(X:f.key∈keys)(T:∀a b m,Ro (d+7) f s 3 [] (Sb f.key a b) (IT f s m))(ws:List E):(∀e∈ws,Ok f.u e/\lC e)->∀a b m,Ro (d+7) f s 3 (ws.map bq) (Sb f.key a b) (IT f s m):=by
 induction ws with
 | nil=>exact λ_=>T
 | cons e ws ih=>
  intro O a b m
  have O1:=O e aF
  obtain ⟨m',t⟩:=ih (λe he=>O e (bB _ he)) (enc e) (.list ((fM e).map cb)) (m+6)
  have H:∀{m},HW f (IT f s m):=Tu
  exact ⟨m',run [.g (t8 (d:=d+1) (k:=f.key) (h:=IT f s m) H.use O1.1 O1.2 H.d),.g (qL (d:=d+1) (k:=f.key) (h:=IT f s (m+2)) H.use O1.1 O1.2 H.d),.g (zU (d:=d+3) (k:=f.key) (h:=IT f s (m+4)) X O1.1 O1.2 H.d),
   .g (Ah (d:=d+6) (h:=IT f s (m+6)) X O1.1 O1.2),.q 1 (ne_self (x:=nV f.key e) rfl),.l t]⟩
noncomputable def Du(k:Path)(H:Hid)(a b c x y:aa):Env:=RA k a b H.enc c x y .undef .undef .undef .undef .undef .undef .undef .undef
noncomputable def N0(d:Nat)(f:Fx)(s:Vs)(m:Nat)(xs:List aa):Prop:=∀a b c x y,Ro d f s 6 xs (Du f.key f.gK a b c x y) (R5 f s m)
noncomputable def WW(d:Nat)(f:Fx)(s:Vs)(m:Nat)(xs:List aa)(names:List aa)(rest gK:Bool):Prop:=∀K a ks fl n,(cl F.gF [f.gK.enc,nd K a ks fl n] (R5 f s m) (.bool gK,R5 f s m)).ok (d+6)->N0 (d+7) f s m (.tup [nd K a ks fl n,.list names,.bool rest]::xs)
theorem Rr.KY{P:List aa->Bool->Bool->Prop}{H:Hid}(h1:∀c:Nm,P [.str c.s] false (H.has c))(h2:P [.none] false H.some)(h3:P [.str ou] true H.some)(h4:P [] false false){r:Rr}(hr:r.ok=true):P r.names r.rest (r.gK H):=by
 cases r with
 | mem o c=>exact h1 c
 | idx o t=>cases t with
  | y=>exact h2
  | _ c=>exact h1 c
 | Cg=>exact h2
 | pat k=>cases k with
  | op=>exact nomatch hr
  | p4=>exact h1 .a
  | p5=>exact h3
  | p6=>exact h4
theorem K8{xs:List aa}(T:N0 (d+7) f s m xs){r:Rr}(hr:r.ok=true):N0 (d+7) f s m (mq r::xs):=by
 obtain ⟨K,a,ks,fl,er⟩:=r.nd hr
 have g:=Jf (d:=d+2) (h:=R5 f s m) (H:=f.gK) hr
 unfold mq
 unfold Sy at g
 rw [er]at g ⊢
 refine Rr.KY (P:=WW d f s m xs) (H:=f.gK) (λc=>?_) ?_ ?_ ?_ hr K a ks fl _ g
 ·intro K a ks fl n g a4 a5 a7 a8 a9
  obtain ⟨m',t⟩:=T (nd K a ks fl n) a5 (.list [.str c.s]) (.bool false) (.bool false)
  refine ⟨m',?_⟩
  unfold Du at t ⊢
  revert g t
  cases f.gK <;> cases c <;> exact λg t=>run [.g g,.l t]
 ·intro K a ks fl n g a4 a5 a7 a8 a9
  obtain ⟨m',t⟩:=T (nd K a ks fl n) a5 (.list [.none]) (.bool false) (.bool true)
  refine ⟨m',?_⟩
  unfold Du at t ⊢
  revert g t
  cases f.gK <;> exact λg t=>run [.g g,.l t]
 ·intro K a ks fl n g a4 a5 a7 a8 a9
  obtain ⟨m',t⟩:=T (nd K a ks fl n) a5 (.list [.str ou]) (.bool true) (.bool true)
  refine ⟨m',?_⟩
  unfold Du at t ⊢
  revert g t
  cases f.gK <;> exact λg t=>run [.g g,.l t]
 ·intro K a ks fl n g a4 a5 a7 a8 a9
  obtain ⟨m',t⟩:=T (nd K a ks fl n) a5 (.list []) (.bool false) (.bool false)
  refine ⟨m',?_⟩
  unfold Du at t ⊢
  revert g t
  cases f.gK <;> exact λg t=>run [.g g,.l t]
theorem O5(T:N0 (d+7) f s m [])(rs:List Rr):(∀r∈rs,r.ok=true)->N0 (d+7) f s m (rs.map mq):=by
 induction rs with
 | nil=>exact λ_=>T
 | cons r rs ih=>exact λO=>K8 (ih λr hr=>O r (bB _ hr)) (O r aF)
end
theorem yb(e:E):yc e=(obj e).elim .none ax:=by
 induction e with
 | wr k e n ih=>exact ih
 | _=>rfl
noncomputable def vX:Option E->Nat | none=>0 | some e=>bW e
theorem eq_not(b:Bool)(h:Hp):ck h .eq (.bool !b) (.bool b)=some false:=by cases b <;> rfl
section
variable{d m n j:Nat}{f:Fx}{s:Vs}{h:Hp}{e g p q:E}{k:Path}{w o:Bool}{a:Ak}{x5 x6 x7 x8 x9 x13 x14 x15 x16 x17:aa}
noncomputable abbrev ca(o:Bool)(a:Ak)(g p q:E)(m j:Nat):E:=.call false o a g p q m j
noncomputable abbrev Wz:ME:=.cmp .ne (.call F.iL [(.v 1),(.v 4),(.v 3)]) (.or [(.b1 .any (.v 13)),(.and [(.cmp .fh (.v 14) (.c .none)),(.call F.gP [(.v 14),(.v 2)])])])
noncomputable abbrev Wy:ME:=.or [(.cmp .ne (.ite (.cmp .is (.v 15) (.c .none)) (.c (.int 0)) (.attr (.v 15) bj)) (.ite (.cmp .is (.v 14) (.c .none)) (.c (.int 0)) (.attr (.item (.v 14) (.c (.str au))) bj))),(.cmp .ne (.call F.oz [(.v 4)]) (.v 12))]
noncomputable abbrev WA:ME:=.ite (.or [(.cmp .eq (.v 16) (.b1 .len (.v 10))),(.cmp .in (.c .none) (.slice (.v 10) none (some (.add .f (.v 16) (.c (.int 1))))))]) (.c (.int 0)) (.attr (.item (.item (.v 10) (.v 16)) (.c (.str au))) bj)
noncomputable abbrev Wx:ME:=.cmp .ne (.ite (.cmp .is (.v 15) (.c .none)) (.c (.int 0)) (.attr (.v 15) bj)) (.v 17)
noncomputable abbrev TB:ME:=.and [(.cmp .fh (.v 19) (.c .none)),(.call F.gP [(.v 19),(.v 2)])]
noncomputable def NK(l:List (Option Nat×E))(k:Path):List aa:=l.map λx=>.bool (!x.1.isSome&&tells x.2 k)
noncomputable def MU(k:Path)(o:Bool)(a:Ak)(g p q:E)(m j:Nat)(b x5 x6 x7 x8 x9 x13 x14 x15 x16 x17:aa):Env:=RA k (enc (ca o a g p q m j)) x5 x6 x7 x8 x9 b (ax g) (.bool (gB (ca o a g p q m j))) x13 x14 x15 x16 x17
noncomputable def oo(a:Ak)(p q:E):aa:=.list ((a.lst p q).map xi)
noncomputable def xG(f:Fx)(o:Bool)(a:Ak)(g p q:E)(m j:Nat)(x5 x6 x7 x8 x9 x15 x16 x17:aa)(h:Hp):Gl:=ex 13 Wz (MU f.key o a g p q m j (oo a p q) x5 x6 x7 x8 x9 (.list (NK (a.lst p q) f.key)) (yc g) x15 x16 x17) h (.bool false,h.up (h.n+1))
theorem Sa(X:f.key∈keys)(H:HW f h)(O:Ok f.u (ca o a g p q m j))(Oa:∀x∈a.lst p q,Ok f.u x.2):(xG f o a g p q m j x5 x6 x7 x8 x9 x15 x16 x17 h).ok (d+8):=by
 have c:=Q0 (d:=d) (o:=o) (m:=m) (j:=j) H.use X H.d Oa O.cf
 have y:=any_bools (λx:Option Nat×E=> !x.1.isSome&&tells x.2 f.key) (a.lst p q)
 have nn:=ne_self (x:=.bool (lz (a.lst p q) g f.key)) rfl
 unfold TF at c
 unfold xG
 rw [yb]
 unfold lz at c nn
 cases q1:(a.lst p q).any λx=> !x.1.isSome&&tells x.2 f.key with
 | true=>rw [q1]at c nn y;exact run [.g c,.v 4 y]
 | false=>
  rw [q1]at c nn y
  revert c nn
  cases e:obj g with
  | none=>exact λc nn=>run [.g c,.v 4 y]
  | some g'=>exact λc nn=>run [.g c,.v 4 y,.g (qf (d:=d+7) (h:=h.up (h.n+1)) X (DJ O.cf g' e)),.q 1 nn]
noncomputable def yG(f:Fx)(o:Bool)(a:Ak)(g p q:E)(m j:Nat)(x5 x6 x7 x8 x9 x13 x16 x17:aa)(h:Hp):Gl:=ex 13 Wy (MU f.key o a g p q m j (oo a p q) x5 x6 x7 x8 x9 x13 (yc g) (oV (obj g)) x16 x17) h (.bool false,h)
theorem R9(O:Ok f.u (ca o a g p q m j)):(yG f o a g p q m j x5 x6 x7 x8 x9 x13 x16 x17 h).ok (d+2):=by
 have c:=C9 (d:=d) h O
 have nn:=ne_self (x:=.bool (gB (ca o a g p q m j))) rfl
 unfold yG
 rw [yb]
 cases e:obj g with
 | none=>exact run [.s 1 3,.g c,.q 1 nn]
 | some g'=>exact run [.s 1 2,.q 1 (ne_self (x:=.int (bW g':Nat)) rfl),.g c,.q 1 nn]
noncomputable def nG(f:Fx)(o:Bool)(a:Ak)(g p q:E)(m j:Nat)(x5 x6 x7 x8 x9 x13 x14 x15 x17:aa)(i:Nat)(h:Hp):Gl:=ex 14 WA (MU f.key o a g p q m j (oo a p q) x5 x6 x7 x8 x9 x13 x14 x15 (.int (i:Nat)) x17) h (.int (vX (gE (a.lst p q) i):Nat),h)
theorem SW(i:Nat)(hi:i<=(a.lst p q).length):(nG f o a g p q m j x5 x6 x7 x8 x9 x13 x14 x15 x17 i h).ok d:=by
 have one:∀{P:Nat->Prop},P 0->P 1->∀i,i<=1->P i:=λ{P} h0 h1 i hi=>oM (P:=λi=>i<=1->P i) (λ_=>h0) (λ_=>h1) (λh=>absurd h (Nat.not_succ_le_self 1)) i (Nat.le_succ_of_le hi) hi
 revert i
 cases a with
 | zero=>exact λi hi=>Nat.le_zero.mp hi▸run []
 | one s=>cases s <;> exact one (run []) (run [])
 | two s t=>cases s <;> cases t <;> exact oM (run []) (run []) (run [])
noncomputable def zG(f:Fx)(o:Bool)(a:Ak)(g p q:E)(m j:Nat)(x5 x6 x7 x8 x9 x13 x14 x16:aa)(r:Option E)(h:Hp):Gl:=ex 13 Wx (MU f.key o a g p q m j (oo a p q) x5 x6 x7 x8 x9 x13 x14 (oV r) x16 (.int (vX r:Nat))) h (.bool false,h)
theorem R8(r:Option E):(zG f o a g p q m j x5 x6 x7 x8 x9 x13 x14 x16 r h).ok d:=by
 cases r with
 | none=>exact run []
 | some e=>exact run [.s 1 1,.q 1 (ne_self (x:=.int (bW e:Nat)) rfl)]
theorem Kr(X:f.key∈keys)(Oa:∀x∈a.lst p q,Ok f.u x.2):dy (ov (aM pg (d+8)) (.v 19) none TB (MU f.key o a g p q m j (oo a p q) x5 x6 x7 x8 x9 x13 x14 x15 x16 x17)) ((a.lst p q).map xi) h=some (NK (a.lst p q) f.key,h):=
 comp_map h (a.lst p q) λx hx=>jf rfl (match x,hx with
  | (some i,y),_=>run (d:=d+8) (G:=ex 0 TB ((MU f.key o a g p q m j (oo a p q) x5 x6 x7 x8 x9 x13 x14 x15 x16 x17).set 19 .none) h (.bool false,h)) []
  | (none,y),hx=>run (d:=d+8) (G:=ex 0 TB ((MU f.key o a g p q m j (oo a p q) x5 x6 x7 x8 x9 x13 x14 x15 x16 x17).set 19 (ax y)) h (.bool (tells y f.key),h)) [.g (qf (d:=d+7) (h:=h) X (Oa _ hx))])
noncomputable def BA:E->Bool | .call _ _ _ _ _ _ _ _=>true | _=>false
noncomputable def Rq(d:Nat)(f:Fx)(s:Vs)(xs:List aa):Prop:=∀m a4 a5 a6 a7 a8 a9 a10 a11 a12 a13 a14 a15 a16 a17,Ro d f s 8 xs (RA f.key a4 a5 a6 a7 a8 a9 a10 a11 a12 a13 a14 a15 a16 a17) (xo f s m)
theorem LI{u:List (Int×aa)}(O:Ok u (.call w o a g p q m j)):∀x∈a.lst p q,Ok u x.2:=by
 cases a with
 | zero=>exact λx h=>nomatch h
 | one s=>exact bt (P:=λx:Option Nat×E=>Ok u x.2) (x:=(s,p)) O.cp
 | two s t=>exact λx h=>(List.mem_cons.mp h).elim (λe=>e▸O.cp) (bt (P:=λx:Option Nat×E=>Ok u x.2) (x:=(t,q)) O.cq x)
theorem MT{xs:List aa}(X:f.key∈keys)(O:Ok f.u (.call w o a g p q m j))(T:Rq (d+9) f s xs):Rq (d+9) f s (nY (.call w o a g p q m j)::xs):=λn a4 a5 a6 a7 a8 a9 a10 a11 a12 a13 a14 a15 a16 a17=>by
 have H:HW f (xo f s n):=Tt
 have co:=J0 (d:=d+7) (w:=w) (o:=o) (a:=a) (p:=p) (q:=q) (m:=m) (j:=j) H.use O.cf
 have ig:=JG (d:=d+8) (w:=W) (v:=w) (o:=o) (a:=a) (p:=p) (q:=q) (m:=m) (j:=j) H.use H.iu rfl O.cf
 have en:=eq_not (glob g)
 cases w with
 | true=>
  obtain ⟨m',t⟩:=T n (enc (.call true o a g p q m j)) a5 a6 a7 a8 a9 (oo a p q) (ax g) (.bool (gB (.call true o a g p q m j))) a13 a14 a15 a16 a17
  exact ⟨m',run [.g co,.g ig,.q 1 en,.l t]⟩
 | false=>
  have Oa:=LI O
  have nl:=d8 (f:=xi) (nA (uh a p q) rfl)
  have tc:=Kr (d:=d+1) (h:=xo f s n) (g:=g) (o:=o) (m:=m) (j:=j) (x5:=a5) (x6:=a6) (x7:=a7) (x8:=a8) (x9:=a9) (x13:=a13) (x14:=a14) (x15:=a15) (x16:=a16) (x17:=a17) X Oa
  have x:=Sa (d:=d+1) (x5:=a5) (x6:=a6) (x7:=a7) (x8:=a8) (x9:=a9) (x15:=a15) (x16:=a16) (x17:=a17) X H O Oa
  have y:=R9 (d:=d+7) (f:=f) (h:=xo f s (n+1)) (x5:=a5) (x6:=a6) (x7:=a7) (x8:=a8) (x9:=a9) (x13:=.list (NK (a.lst p q) f.key)) (x16:=a16) (x17:=a17) O
  have pc:=sN (d:=d+7) (h:=xo f s (n+1)) (w:=false) (o:=o) (a:=a) (p:=p) (q:=q) (m:=m) (j:=j) O.cf
  have po:=λi hi=>O8 (d:=d+7) (h:=xo f s (n+1)) (w:=false) (o:=o) (f:=g) (a:=a) (p:=p) (q:=q) (m:=m) (j:=j) i hi
  have n1:=λx15 x17 i hi=>SW (d:=d+9) (f:=f) (o:=o) (g:=g) (m:=m) (j:=j) (a:=a) (p:=p) (q:=q) (h:=xo f s (n+1)) (x5:=a5) (x6:=a6) (x7:=a7) (x8:=a8) (x9:=a9) (x13:=.list (NK (a.lst p q) f.key)) (x14:=yc g) (x15:=x15) (x17:=x17) i hi
  have z1:=λx16 r=>R8 (d:=d+9) (f:=f) (o:=o) (g:=g) (m:=m) (j:=j) (a:=a) (p:=p) (q:=q) (h:=xo f s (n+1)) (x5:=a5) (x6:=a6) (x7:=a7) (x8:=a8) (x9:=a9) (x13:=.list (NK (a.lst p q) f.key)) (x14:=yc g) (x16:=x16) r
  have t:=T (n+1) (enc (ca o a g p q m j)) a5 a6 a7 a8 a9 (oo a p q) (ax g) (.bool (gB (ca o a g p q m j))) (.list (NK (a.lst p q) f.key)) (yc g)
  let A:List (Fact (d+9))->List (Fact (d+9)):=λr=>.g co:: .g ig:: .q 1 en:: .n nl:: .m tc:: .l x:: .g pc:: .l y::r
  let P:aa->aa->(i:Nat)->i<=(a.lst p q).length->List (Fact (d+9))->List (Fact (d+9)):=λx15 x17 i hi r=>.g (po i hi):: .l (n1 (oV (gE (a.lst p q) i)) x17 i hi):: .l (z1 (.int (i:Nat)) (gE (a.lst p q) i))::r
  cases a with
  | zero=>
   obtain ⟨m',t⟩:=t (oV (gE [] 0)) (.int 0) (.int (vX (gE [] 0):Nat))
   exact ⟨m',run (A (P (oV (obj g)) a17 0 (aO _) [.l t]))⟩
  | one s=>
   obtain ⟨m',t⟩:=t (oV (gE [(s,p)] 1)) (.int 1) (.int (vX (gE [(s,p)] 1):Nat))
   exact ⟨m',run (A (P (oV (obj g)) a17 0 (bP _) (P (oV (gE [(s,p)] 0)) (.int (vX (gE [(s,p)] 0):Nat)) 1 (aO _) [.l t])))⟩
  | two s r=>
   obtain ⟨m',t⟩:=t (oV (gE [(s,p),(r,q)] 2)) (.int 2) (.int (vX (gE [(s,p),(r,q)] 2):Nat))
   exact ⟨m',run (A (P (oV (obj g)) a17 0 (bP _) (P (oV (gE [(s,p),(r,q)] 0)) (.int (vX (gE [(s,p),(r,q)] 0):Nat)) 1 (dJ _) (P (oV (gE [(s,p),(r,q)] 1)) (.int (vX (gE [(s,p),(r,q)] 1):Nat)) 2 (aO _) [.l t]))))⟩
theorem QX(X:f.key∈keys)(T:Rq (d+9) f s [])(cs:List E):(∀c∈cs,Ok f.u c/\BA c=true)->Rq (d+9) f s (cs.map nY):=by
 induction cs with
 | nil=>exact λ_=>T
 | cons c cs ih=>
  intro O
  have i:=ih λc hc=>O c (bB _ hc)
  have oc:=O c aF
  cases c with
  | call=>exact MT X oc.1 i
  | _=>exact nomatch oc.2
noncomputable def Lu(f:Fx)(s:Vs)(m m':Nat):Gl:=cl F.jS [W,AV] (S1 f s m) (.bool true,xo f s m')
theorem DN(X:f.key∈keys)(ws:List E)(rs:List Rr)(cs:List E)(hw:f.wr=ws.map bq)(hr:f.rd=rs.map mq)(hc:f.cl=cs.map nY)(Hw:∀e∈ws,Ok f.u e/\lC e)(Hr:∀r∈rs,r.ok=true)(Hc:∀c∈cs,Ok f.u c/\BA c=true)(m:Nat):∃m',(Lu f s m m').ok (d+9):=by
 have C:Rq (d+9) f s f.cl:=hc▸QX X (λm a4 a5 a6 a7 a8 a9 a10 a11 a12 a13 a14 a15 a16 a17=>⟨m,run []⟩) cs Hc
 have Rd:∀m,N0 (d+9) f s m f.rd:=λm=>hr▸O5 (d:=d+2) (λa b c x y=>by
  obtain ⟨m',t⟩:=C m a b f.gK.enc c x y .undef .undef .undef .undef .undef .undef .undef .undef
  exact ⟨m',run [.l t]⟩) rs Hr
 have Wr:∀m,Ro (d+9) f s 3 f.wr (Sb f.key .undef .undef) (IT f s m):=λm=>hw▸N5 (d:=d+2) X (λa b m=>by
  obtain ⟨m',t⟩:=Rd m a b .undef .undef .undef
  exact ⟨m',run [.l t]⟩) ws Hw .undef .undef m
 obtain ⟨m',t⟩:=Wr m
 exact ⟨m',run [.v 6 (kn X),.l t]⟩
end
noncomputable def hn(h:Hp)(c:Nat)(kvs:List (Sx×aa)):Hp:={G:=h.G,D:=(h.n + 1,.inst c h.n)::(h.n,.ns kvs)::h.D,n:=h.n + 2}
theorem vY(n:Nat):Nat.beq (n + 1) n=false:=xt (cZ n)
theorem UC(n:Nat):Nat.beq n (n + 1)=false:=UD (cZ n)
noncomputable def Fx.nx(f:Fx)(k:Nat):Fx:={f with next:=k}
noncomputable def bh(f:Fx)(s:Vs)(D:List (Nat×ak))(n:Nat):Hp:=⟨(R0 f s).G,D,n⟩
section
variable{d n j:Nat}{h b:Hp}{c:Nat}{kvs K:List (Sx×aa)}{f:Fx}{s:Vs}{D:List (Nat×ak)}{k:Sx}{v:aa}
theorem Af:(hn h c kvs).get (.af (h.n + 1))=some (.inst c h.n):=bz
theorem Ag:(hn h c kvs).get (.af h.n)=some (.ns kvs):=(dG (vY _)).trans bz
theorem Me{k'}:(hn h c kvs).put (.af h.n) (.ns k')=hn h c k':=congrArg (λD=>({G:=h.G,D:=D,n:=h.n + 2}:Hp)) ((jK (vY _)).trans (congrArg _ eE))
noncomputable def KP(c:Nat)(k:Sx)(v:aa)(x:Nat)(o:Option ak):HM aa:=DK o (λkvs=>sm kvs.length (vo λh=>h.put (.af x) (.ns (sset kvs k v)))) no
theorem uI(h:Hp)(kvs:List (Sx×aa))(k:Sx)(v:aa)(hf:(pg.fields c).contains k=true)(hl:kvs.length < LF):mY pg (.af (h.n + 1)) k v (hn h c kvs)=some (.none,hn h c (sset kvs k v)):=
 (congrArg (λo:Option ak=>(FZ o (λc did=>gd ((pg.fields c).contains k) (rQ (.af did) (KP c k v did))) no:HM aa) (hn h c kvs)) Af).trans
  ((congrArg (λb=>(gd b (rQ (.af h.n) (KP c k v h.n)):HM aa) (hn h c kvs)) hf).trans ((congrArg (λo=>KP c k v h.n o (hn h c kvs)) Ag).trans ((congrFun (ql hl) (hn h c kvs)).trans (congrArg (λh=>some (aa.none,h)) Me))))
theorem yB(hd:iN h):yH (.af (h.n + 1)) [] (hn h c kvs)=some (.inst c kvs,h.up (h.n + 2)):=by
 refine (congrArg (λo=>Ij (.af (h.n + 1)) [] o (hn h c kvs)) Af).trans ((congrArg (λo=>(DK o (λkvs=>te (.af (h.n + 1)) (te (.af h.n) (aj (.inst c kvs)))) no:HM aa) (hn h c kvs)) Ag).trans ?_)
 show some (aa.inst c kvs,({G:=h.G,D:=d4 (d4 ((h.n + 1,.inst c h.n)::(h.n,.ns kvs)::h.D) (h.n + 1)) h.n,n:=h.n + 2}:Hp))=_
 rw [cC,dH (UC h.n),eF λp hp=>Nat.lt_succ_of_lt (hd p hp),cC,eF hd];rfl
noncomputable def nk(k a ks fl:aa)(m:Int):List (Sx×aa):=[(az,k),(fE,a),(aB,ks),(fW,fl),(Bq,.int 0),(bj,.int m)]
noncomputable def Qa(h:Hp)(k a ks fl:aa):Gl:=cl F.tD [.af (h.n + 1),k,a,ks,fl,.int 0] (hn h 0 []) (.none,hn h 0 (nk k a ks fl 0))
theorem Aa{k fl:Int}{a:aa}{ks:List aa}(ha:gj a=true):(Qa h (.int k) a (.list ks) (.int fl)).ok d:=
 let S:=λi x=>uI (c:=0) h ((nk (.int k) a (.list ks) (.int fl) 0).take i) x
 run [.a 15 (S 0 az (.int k) rfl (aI rfl)),.u ha,.a 15 (S 1 fE a rfl (aI rfl)),.a 15 (S 2 aB (.list ks) rfl (aI rfl)),.a 15 (S 3 fW (.int fl) rfl (aI rfl)),.a 15 (S 4 Bq (.int 0) rfl (aI rfl)),.a 15 (S 5 bj (.int 0) rfl (aI rfl))]
noncomputable def Pn(f:Fx)(s:Vs)(D:List (Nat×ak))(n:Nat)(k:Int)(a:aa)(ks:List aa)(fl:Int):Gl:=cl F.aX [W,.int k,a,.list ks,.int fl] (bh f s D n) (nd k a ks fl (f.next + 1),bh (f.nx (f.next + 1)) s D (n + 2))
theorem dX(hd:∀p∈D,p.1 < n){k fl:Int}{a:aa}{ks:List aa}(ha:gj a=true):(Pn f s D n k a ks fl).ok (d+1):=
 let b:=bh (f.nx (f.next + 1)) s D n
 run [.s 105 1,.u ha,.g (Aa (h:=bh f s D n) (k:=k) (fl:=fl) (ks:=ks) ha),.s 15 1,.a 15 (uI (c:=0) b (nk (.int k) a (.list ks) (.int fl) 0) bj (.int (f.next + 1:Nat)) rfl (aI rfl)),.a 12 (yB (h:=b) (c:=0) (kvs:=nk (.int k) a (.list ks) (.int fl) (f.next + 1:Nat)) hd)]
noncomputable def dx(b:Hp)(L:List (Nat×ak))(K:List (Sx×aa))(n:Nat):Hp:={G:=b.G,D:=L++(b.n,.sd K)::b.D,n:=n}
noncomputable def Bh(b:Hp)(L:List (Nat×ak)):Prop:=∀p∈L,b.n < p.1
variable{L:List (Nat×ak)}
theorem Nx(hb:Bh b L){r:List (Nat×ak)}:d0 (L++r) b.n=d0 r b.n:=by
 induction L with
 | nil=>rfl
 | cons p L ih=>exact (dG (xt (hb p aF))).trans (ih λq hq=>hb q (bB _ hq))
theorem Nl(hb:Bh b L){r:List (Nat×ak)}{o:ak}:lK (L++r) b.n o=L++lK r b.n o:=by
 induction L with
 | nil=>rfl
 | cons p L ih=>exact (jK (xt (hb p aF))).trans (congrArg (p::·) (ih λq hq=>hb q (bB _ hq)))
theorem oZ(hb:Bh b L):(dx b L K n).get (.af b.n)=some (.sd K):=(Nx hb).trans bz
theorem E2(hb:Bh b L){K'}:(dx b L K n).put (.af b.n) (.sd K')=dx b L K' n:=congrArg (λD=>({G:=b.G,D:=D,n:=n}:Hp)) ((Nl hb).trans (congrArg (L++·) eE))
theorem fY(hb:Bh b L)(hk:bZ K k=some v):aY (dx b L K n) (.af b.n) (.str k)=some v:=(congrArg (λo=>ie o (λkvs=>bZ kvs k) none) (oZ hb)).trans hk
theorem dU(hb:Bh b L)(hl:K.length < LF)(k:Sx)(v:aa):de (.af b.n) (.str k) v (dx b L K n)=some (.none,dx b L (sset K k v) n):=
 (congrArg (λo=>Jl (.af b.n) k v o (dx b L K n)) (oZ hb)).trans ((congrFun (ql hl) _).trans (congrArg (λh=>some (aa.none,h)) (E2 hb)))
theorem jG{C:jj}{env:Env}{i m:Nat}{L':List (Nat×ak)}{xs:List aa}(he:env[i]?=some (.af b.n))(hb:Bh b L)(hb':Bh b L')(hk:bZ K k=some (.af m))(hm:b.n < m)(hd:iN b)(hg:d0 (L++(b.n,.sd K)::b.D) m=some (.list xs))(hl:d4 L m=L'):exec pg C (.fj i k) env (dx b L K n)=some ((.next,env),dx b L' (sset K k (.list xs)) n):=by
 have hdel:d4 (L++(b.n,.sd K)::b.D) m=L'++(b.n,.sd K)::b.D:=by
  have e0:d4 ((b.n,.sd K)::b.D) m=(b.n,.sd K)::b.D:=eF λp hp=>(List.mem_cons.mp hp).elim (λe=>e▸hm) λhp=>cK (hd p hp) hm
  have:∀L:List (Nat×ak),d4 (L++(b.n,.sd K)::b.D) m=d4 L m++(b.n,.sd K)::b.D:=λL=>by
   induction L with
   | nil=>exact e0
   | cons p L ih=>show (bif Nat.beq p.1 m then d4 (L++(b.n,.sd K)::b.D) m else p::d4 (L++(b.n,.sd K)::b.D) m)=(bif Nat.beq p.1 m then d4 L m else p::d4 L m)++(b.n,.sd K)::b.D;rw [ih];cases Nat.beq p.1 m <;> rfl
  rw [this,hl]
 show (λo=>(hY o λv=>rQ v λo=>ie o (λkvs=>aL (fZ kvs k) λkvs=>rQ v λo=>ie o (λ_ h=>some ((Fl.next,env),h.put v (.sd kvs))) no) no:HM FE) (dx b L K n)) env[i]?=_
 rw [he]
 show (λo=>(ie o (λkvs=>aL (fZ kvs k) λkvs=>rQ (.af b.n) λo=>ie o (λ_ h=>some ((Fl.next,env),h.put (.af b.n) (.sd kvs))) no) no:HM FE) (dx b L K n)) ((dx b L K n).get (.af b.n))=_
 rw [oZ hb]
 refine bL (a:=sset K k (.list xs)) (h':=dx b L' K n) ?_ ?_
 ·show (oS (bZ K k) _ _:HM (List (Sx×aa))) _=_
  rw [hk]
  show (λo=>(oS o (λo=>oS o.frozen (λv h=>some (sset K k v,h.del (.af m))) no) no:HM (List (Sx×aa))) (dx b L K n)) (d0 (L++(b.n,.sd K)::b.D) m)=_
  rw [hg]
  exact congrArg (λD=>some (sset K k (.list xs),({G:=b.G,D:=D,n:=n}:Hp))) hdel
 ·show (λo=>(ie o (λ_ h=>some ((Fl.next,env),h.put (.af b.n) (.sd (sset K k (.list xs))))) no:HM FE) (dx b L' K n)) ((dx b L' K n).get (.af b.n))=_
  rw [oZ hb']
  exact congrArg (λh=>some ((Fl.next,env),h)) (E2 hb')
end
structure Sm(e:E):Prop where
 dn:(aE e).length<=100000
 st:(aP e).length<=100000
noncomputable abbrev di(b:Hp)(j:Nat)(K:List (Sx×aa))(Dd Ss:List aa):Hp:=dx b [(j + 1,.list Ss),(j,.list Dd)] K (j + 2)
noncomputable def KI(x r t sp ho hr ob nm op:aa)(dp j:Nat):List (Sx×aa):=[(au,x),(c5,r),(bg,t),(bK,sp),(cw,ho),(dm,hr),(dh,ob),(cP,nm),(bS,op),(eM,.int (dp:Nat)),(aq,.af j),(aG,.af (j + 1))]
noncomputable abbrev K0(x:aa)(dp j:Nat):List (Sx×aa):=KI x .none .none (.int 0) (.list []) (.tup [aQ,aQ]) .none aQ (.bool false) dp j
noncomputable def yy:List E->Nat->Nat
 | [],d=>d
 | e::L,d=>yy L (max d (dep e + 1))
noncomputable def P7:List E->List aa->List aa
 | [],D=>D
 | e::L,D=>P7 L (D++aE e)
noncomputable def P6:List E->List aa->List aa
 | [],D=>D
 | e::L,D=>P6 L (D++(aP e).map bq)
noncomputable def Bx:List E->Nat->Nat
 | [],j=>j
 | _::L,j=>Bx L (j + 2)
section
variable{d n j:Nat}{b:Hp}{x y:aa}{e:E}
theorem Bh.cs{i:Nat}{o:ak}{L:List (Nat×ak)}(h:b.n < i)(t:Bh b L):Bh b ((i,o)::L):=λp hp=>(List.mem_cons.mp hp).elim (λe=>e▸h) (t p)
theorem Bh.nl:Bh b []:=λ_ h=>nomatch h
theorem LG(a b:Nat):arith (λx y=>some (if x < y then y else x)) (.int (a:Nat)) (.int (b:Nat))=some (.int (max a b:Nat)):=congrArg (λi:Int=>some (aa.int i)) (by
 show (if (a:Int) < (b:Nat)then ((b:Nat):Int)else (a:Nat))=((max a b:Nat):Int)
 by_cases h:a < b
 ·rw [if_pos (Int.ofNat_lt.mpr h),Nat.max_eq_right (Nat.le_of_lt h)]
 ·rw [if_neg λq=>h (Int.ofNat_lt.mp q),Nat.max_eq_left (Nat.le_of_not_lt h)])
noncomputable def V8(b:Hp)(x y:aa)(L:List E)(dp j:Nat)(D S:List aa)(z:aa):Gl:=fo 5 rF (L.map ax) [x,y,.af b.n,z] (di b j (K0 x dp j) D S) (.af b.n,di b (Bx L j) (K0 x (yy L dp) (Bx L j)) (P7 L D) (P6 L S))
theorem add_l{a c m:Nat}(h:m + 100000 * (a + 1)<=1000000)(hc:c<=100000):m + c + 100000 * a<=1000000/\m + c < LF:=
 have e:m + c + 100000 * a<=1000000:=ai (by rw [Nat.add_assoc,Nat.mul_succ,Nat.add_comm (100000 * a)];exact dB (gN hc _) m) h
 ⟨e,bJ (ai (aJ _ _) e) (aI rfl)⟩
theorem P5(hd:iN b)(L:List E):(∀e∈L,Sm e)->∀dp j D S z,b.n < j->D.length + 100000 * L.length<=1000000->S.length + 100000 * L.length<=1000000->(V8 b x y L dp j D S z).ok d:=by
 induction L with
 | nil=>exact λ_ dp j D S z _ _ _=>run []
 | cons e L ih=>
  intro sm dp j D S z hj h1 h2
  have se:=sm e aF
  obtain ⟨a1,n1⟩:=add_l h1 se.dn
  obtain ⟨a2,n2⟩:=add_l (c:=((aP e).map bq).length) h2 (List.length_map bq▸se.st)
  have t:=ih (λe he=>sm e (bB _ he)) (max dp (dep e + 1)) (j+2) (D++aE e) (S++(aP e).map bq) (ax e) (bU 2 hj) (List.length_append▸a1) (List.length_append▸a2)
  let p:=max dp (dep e + 1)
  let D':=D++aE e
  let K1:=sset (K0 x p j) aq (.list D)
  let K2:=sset (K0 x p j) aq (.af (j+2))
  let K3:=sset K2 aG (.list S)
  have j1:b.n < j + 1:=bU 1 hj
  have j2:b.n < j + 2:=bU 2 hj
  have B2:Bh b [(j + 1,.list S),(j,.list D)]:=.cs j1 (.cs hj .nl)
  have B1:Bh b [(j + 1,.list S)]:=.cs j1 .nl
  have B3:Bh b [(j + 2,.list D'),(j + 1,.list S)]:=.cs j2 B1
  have B4:Bh b [(j + 2,.list D')]:=.cs j2 .nl
  exact run [.w 0 (fY B2 (K:=K0 x dp j) (k:=eM) (v:=.int (dp:Nat)) (n:=j + 2) rfl),.w 7 (LG dp (dep e + 1)),.a 15 (dU (K:=K0 x dp j) (n:=j + 2) B2 (aI rfl) eM (.int (p:Nat))),
   .t (jG (C:=aM pg d) (i:=2) (K:=K0 x p j) (k:=aq) (n:=j + 2) (env:=[x,y,.af b.n,ax e]) rfl B2 B1 rfl hj hd ((dG (vY j)).trans bz) ((dH (vY j)).trans (congrArg ((j + 1,ak.list S)::·) (cC (r:=[]))))),
   .w 0 (fY B1 (K:=K1) (k:=aq) (v:=.list D) (n:=j + 2) rfl),.n n1,.a 15 (dU (K:=K1) (n:=j + 3) B3 (aI rfl) aq (.af (j + 2))),
   .t (jG (C:=aM pg d) (i:=2) (K:=K2) (k:=aG) (n:=j + 3) (env:=[x,y,.af b.n,ax e]) rfl B3 B4 rfl j1 hd ((dG (vY (j+1))).trans bz) ((dH (vY (j+1))).trans (congrArg ((j + 2,ak.list D')::·) (cC (r:=[]))))),
   .w 0 (fY B4 (K:=K3) (k:=aG) (v:=.list S) (n:=j + 3) rfl),.n n2,.a 15 (dU (K:=K3) (n:=j + 4) (.cs (o:=.list (S++(aP e).map bq)) (bU 3 hj) B4) (aI rfl) aG (.af (j + 3))),.l t]
noncomputable def qW(b:Hp)(x:aa)(L:List E):Gl:=cl F.b0 [x,.list (L.map ax)] b (.af b.n,di b (Bx L (b.n + 1)) (K0 x (yy L 1) (Bx L (b.n + 1))) (P7 L []) (P6 L []))
theorem lg(hx:gj x=true)(hd:iN b)(L:List E)(sm:∀e∈L,Sm e)(hl:L.length<=4):(qW b x L).ok d:=
 have h:0 + 100000 * L.length<=1000000:=Nat.zero_add _▸ai (Nat.mul_le_mul_left _ hl) (bY rfl)
 let S8:List (Sx×aa):=[(au,x),(c5,.none),(bg,.none),(bK,.int 0),(cw,.list []),(dm,.tup [aQ,aQ]),(dh,.none),(cP,aQ)]
 let S9:=sset S8 bS (.bool false)
 let S10:=sset S9 eM (.int 1)
 let S11:=sset S10 aq (.af (b.n + 1))
 have B1:Bh b [(b.n + 1,.list [])]:=.cs (cZ _) .nl
 run [.u hx,.a 15 (dU (b:=b) (K:=S8) (n:=b.n + 1) .nl (aI rfl) bS (.bool false)),.a 15 (dU (b:=b) (K:=S9) (n:=b.n + 1) .nl (aI rfl) eM (.int 1)),.a 15 (dU (K:=S10) (n:=b.n + 2) B1 (aI rfl) aq (.af (b.n + 1))),
  .a 15 (dU (K:=S11) (n:=b.n + 3) (.cs (o:=.list []) (bU 1 (cZ _)) B1) (aI rfl) aG (.af (b.n + 2))),.l (P5 (x:=x) (y:=.list (L.map ax)) hd L sm 1 (b.n + 1) [] [] .undef (cZ _) h h)]
end
noncomputable def uR(K:List (Sx×aa))(Dd Ss:List aa):aa:=.sd (sset (sset K aq (.list Dd)) aG (.list Ss))
theorem NL{G:List (Option (Nat×ak))}{D D':List (Nat×ak)}{n m:Nat}{K:List (Sx×aa)}{k:Sx}{xs:List aa}(hk:bZ K k=some (.af m))(hg:d0 D m=some (.list xs))(hd:d4 D m=D'):fZ K k ⟨G,D,n⟩=some (sset K k (.list xs),⟨G,D',n⟩):=by
 show (oS (bZ K k) _ _:HM (List (Sx×aa))) _=_
 rw [hk]
 show (λo=>(oS o (λo=>oS o.frozen (λv h=>some (sset K k v,h.del (.af m))) no) no:HM (List (Sx×aa))) ⟨G,D,n⟩) (d0 D m)=_
 rw [hg]
 exact congrArg (λD=>some (sset K k (.list xs),(⟨G,D,n⟩:Hp))) hd
section
variable{d n j:Nat}{b:Hp}{x y:aa}{e:E}{f:Fx}{s:Vs}{D:List (Nat×ak)}{K:List (Sx×aa)}{Dd Ss:List aa}{q:Int}
theorem jH(hj:b.n < j)(hd:iN b)(h1:bZ K aq=some (.af j))(h2:bZ (sset K aq (.list Dd)) aG=some (.af (j + 1))):yH (.af b.n) [aq,aG] (di b j K Dd Ss)=some (uR K Dd Ss,b.up (j + 2)):=by
 have j1:b.n < j + 1:=bU 1 hj
 refine (congrArg (λo=>Ij (.af b.n) [aq,aG] o (di b j K Dd Ss)) (oZ (.cs j1 (.cs hj .nl)))).trans ?_
 have hb:∀p∈b.D,p.1 < j:=λp hp=>cK (hd p hp) hj
 have e0:d4 ((j + 1,ak.list Ss)::(j,ak.list Dd)::(b.n,ak.sd K)::b.D) b.n=(j + 1,.list Ss)::(j,.list Dd)::b.D:=by rw [dH (xt j1),dH (xt hj),cC,eF hd]
 show aL (d5 K [aq,aG]) (λkvs=>aj (aa.sd kvs)) ⟨b.G,d4 ((j + 1,ak.list Ss)::(j,ak.list Dd)::(b.n,ak.sd K)::b.D) b.n,j + 2⟩=_
 rw [e0]
 exact bL (bL (NL h1 ((dG (vY j)).trans bz) ((dH (vY j)).trans (congrArg (_::·) (cC.trans (eF hb))))) (bL (NL h2 bz (cC.trans (eF λp hp=>Nat.lt_succ_of_lt (hb p hp)))) rfl)) rfl
noncomputable def bn(f:Fx)(i:Nat):Fx:=f.nx (f.next + i)
noncomputable def aU(nx:Nat)(e:E):E:=bif gB e then .wr .chain e (nx + 1)else e
noncomputable def dC(e:E):Nat:=bif gB e then 1 else 0
noncomputable def iR(n:Nat)(e:E):Nat:=bif gB e then n + 7 else n
noncomputable def plain(e:E):Bool:=[8,9,16,17,18,19,32,33].contains (bV e)
noncomputable def eJ(nx:Nat)(e:E):E:=bif plain e then e else .wr .paren e (nx + 1)
noncomputable def gD(e:E):Nat:=bif plain e then 0 else 1
noncomputable def pz(n:Nat)(e:E):Nat:=bif plain e then n else n + 7
theorem A4(e:E):plain e=false->gB e=false:=by
 cases e with
 | wr k=>cases k <;> first | exact λ_=>rfl | exact λh=>nomatch h
 | call w=>cases w <;> exact λh=>nomatch h
 | mem=>exact λh=>nomatch h
 | idx=>exact λh=>nomatch h
 | _=>exact λ_=>rfl
theorem RN(p:Nat):max 1 (p + 1)=p + 1:=Nat.max_eq_right (ee (bP p))
noncomputable def KW(k:Wk)(e:E)(nx j:Nat):List (Sx×aa):=KI (enc (.wr k e nx)) (bk (ref e)) (bk (aS e)) (.int (gR e:Nat)) (kO e) (BE (jd e)) (yc e) (iU e) (.bool false) (dep e + 1) j
noncomputable def OT(f:Fx)(s:Vs)(D:List (Nat×ak))(n:Nat)(k:Wk)(e:E):Gl:=cl F.kh [W,.int k.k,ax e] (bh f s D n) (.af (n + 2),di (bh (f.nx (f.next + 1)) s D (n + 2)) (n + 5) (KW k e (f.next + 1) (n + 5)) (aE e) ((aP e).map bq))
theorem l9{k:Nat}(hd:∀p∈D,p.1 < n):∀p∈D,p.1 < n + k:=λp hp=>bU k (hd p hp)
theorem pO(hd:∀p∈D,p.1 < n)(sm:Sm e){k:Wk}:(OT f s D n k e).ok (d+2):=by
 let b:=bh (f.nx (f.next + 1)) s D (n + 2)
 let X:=enc (.wr k e (f.next + 1))
 have i:(qW b X [e]).ok (d+1):=lg (b:=b) rfl (l9 hd:∀p∈D,p.1 < n + 2) [e] (bt sm) (bY rfl)
 unfold qW yy yy at i
 rw [RN]at i
 have hj:b.n < n + 5:=bU 2 (cZ _)
 let N:=λr t sp ho hr ob=>KI X r t sp ho hr ob aQ (.bool false) (dep e + 1) (n + 5)
 have S:∀(K:List (Sx×aa)) k v,K.length < LF->de (.af b.n) (.str k) v (di b (n + 5) K (aE e) ((aP e).map bq))=some (.none,di b (n + 5) (sset K k v) (aE e) ((aP e).map bq)):=λK k v hl=>dU (.cs (bU 1 hj) (.cs hj .nl)) hl k v
 exact run [.g (dX (f:=f) (s:=s) (k:=k.k) (fl:=0) (a:=aQ) (ks:=[enc e]) hd rfl),.g i,
  .a 15 (S (N .none .none (.int 0) (.list []) (.tup [aQ,aQ]) .none) c5 (bk (ref e)) (aI rfl)),.a 15 (S (N (bk (ref e)) .none (.int 0) (.list []) (.tup [aQ,aQ]) .none) bg (bk (aS e)) (aI rfl)),
  .a 15 (S (N (bk (ref e)) (bk (aS e)) (.int 0) (.list []) (.tup [aQ,aQ]) .none) bK (.int (gR e:Nat)) (aI rfl)),.a 15 (S (N (bk (ref e)) (bk (aS e)) (.int (gR e:Nat)) (.list []) (.tup [aQ,aQ]) .none) cw (kO e) (aI rfl)),
  .a 15 (S (N (bk (ref e)) (bk (aS e)) (.int (gR e:Nat)) (kO e) (.tup [aQ,aQ]) .none) dm (BE (jd e)) (aI rfl)),.a 15 (S (N (bk (ref e)) (bk (aS e)) (.int (gR e:Nat)) (kO e) (BE (jd e)) .none) dh (yc e) (aI rfl)),
  .a 15 (S (N (bk (ref e)) (bk (aS e)) (.int (gR e:Nat)) (kO e) (BE (jd e)) (yc e)) cP (iU e) (aI rfl))]
noncomputable def I8(f:Fx)(s:Vs)(D:List (Nat×ak))(n:Nat)(e:E):Gl:=cl F.fx [W,ax e] (bh f s D n) (ax (aU f.next e),bh (bn f (dC e)) s D (iR n e))
noncomputable def wF(k:Wk)(e:E)(f:Fx)(s:Vs)(D:List (Nat×ak))(n:Nat)(hd:∀p∈D,p.1 < n):=jH (b:=bh (f.nx (f.next + 1)) s D (n + 2)) (j:=n + 5) (K:=KW k e (f.next + 1) (n + 5)) (Dd:=aE e) (Ss:=(aP e).map bq) (bU 2 (cZ _)) (l9 hd) rfl rfl
theorem jo(hd:∀p∈D,p.1 < n)(sm:Sm e):(I8 f s D n e).ok (d+3):=by
 have o:∀h,aY h (ax e) (.str bS)=some (.bool (gB e)):=λ_=>rfl
 unfold I8 aU dC iR
 cases q:gB e with
 | false=>rw [q]at o;exact run [.v 0 o]
 | true=>rw [q]at o;exact run [.v 0 o,.g (pO (f:=f) (s:=s) hd sm (k:=.chain)),.a 12 (wF .chain e f s D n hd)]
noncomputable def JI(f:Fx)(s:Vs)(D:List (Nat×ak))(n:Nat)(e:E):Gl:=cl F.iZ [W,ax e] (bh f s D n) (ax (eJ f.next e),bh (bn f (gD e)) s D (pz n e))
theorem pT(hd:∀p∈D,p.1 < n)(sm:Sm e):(JI f s D n e).ok (d+3):=by
 have i:=lG (bV e) [8,9,16,17,18,19,32,33]
 have i:∀h,ck h .in (.int (bV e)) (.tup [.int 8,.int 9,.int 16,.int 17,.int 18,.int 19,.int 32,.int 33])=some (plain e):=i
 unfold JI eJ gD pz
 cases q:plain e with
 | true=>rw [q]at i;exact run [.q 1 i]
 | false=>
  rw [q]at i
  have ei:ax (.wr .paren e (f.next + 1))=uR (KW .paren e (f.next + 1) (n + 5)) (aE e) ((aP e).map bq):=by
   show Ba (.wr .paren e (f.next + 1)) (yc e)=_
   unfold Ba
   rw [show gB (.wr .paren e (f.next + 1))=false from A4 e q];rfl
  show (cl F.iZ [W,ax e] (bh f s D n) (ax (.wr .paren e (f.next + 1)),bh (bn f 1) s D (n + 7))).ok (d+3)
  rw [ei]
  exact run [.q 1 i,.g (pO (f:=f) (s:=s) hd sm (k:=.paren)),.a 12 (wF .paren e f s D n hd)]
theorem lu{nx:Nat}(h:Sm e):Sm (eJ nx e):=by
 unfold eJ
 cases plain e with
 | true=>exact h
 | false=>exact ⟨h.dn,h.st⟩
theorem jq{nx:Nat}(h:Sm e):Sm (aU nx e):=by
 unfold aU
 cases gB e with
 | true=>exact ⟨h.dn,h.st⟩
 | false=>exact h
theorem kN(n:Nat)(e:E):n<=pz n e:=by unfold pz;cases plain e <;> first | exact aO _ | exact aJ _ _
theorem jr(n:Nat)(e:E):n<=iR n e:=by unfold iR;cases gB e <;> first | exact aO _ | exact aJ _ _
noncomputable def f6(nx:Nat)(e:E):E:=aU (nx + gD e) (eJ nx e)
noncomputable def dK(f:Fx)(e:E):Fx:=bn (bn f (gD e)) (dC (eJ f.next e))
noncomputable def ng(f:Fx)(n:Nat)(e:E):Nat:=iR (pz n e) (eJ f.next e)
noncomputable def Pc(f:Fx)(s:Vs)(D:List (Nat×ak))(n:Nat)(e:E):Gl:=cl F.qG [W,ax e] (bh f s D n) (ax (f6 f.next e),bh (dK f e) s D (ng f n e))
theorem kY(hd:∀p∈D,p.1 < n)(sm:Sm e):(Pc f s D n e).ok (d+4):=
 run [.g (pT (f:=f) (s:=s) hd sm),.g (jo (f:=bn f (gD e)) (s:=s) (λp hp=>eG (hd p hp) (kN n e)) (lu (nx:=f.next) sm))]
end
noncomputable def DP(f:Fx)(u:Nt):Fx:={f with next:=f.next + 1,u:=u.Ci.elim f.u λv=>kJ f.u ((f.next + 1:Nat):Int) v}
section
variable{d n j:Nat}{b:Hp}{x y:aa}{e:E}{f:Fx}{s:Vs}{D:List (Nat×ak)}{K:List (Sx×aa)}{Dd Ss:List aa}{q:Int}
noncomputable def S0(b:Hp)(r t x:aa):Hp:=di b (b.n + 1) (KI x r t (.int 0) (.list []) (.tup [aQ,aQ]) .none aQ (.bool false) 1 (b.n + 1)) [] []
theorem TR(b:Hp):Bh b [(b.n + 1 + 1,.list []),(b.n + 1,.list [])]:=.cs (bU 1 (cZ _)) (.cs (cZ _) .nl)
theorem Jc(b:Hp)(r x:aa):de (.af b.n) (.str c5) r (S0 b .none .none x)=some (.none,S0 b r .none x):=dU (TR b) (aI rfl) c5 r
theorem JQ(b:Hp)(r x:aa):aY (S0 b r .none x) (.af b.n) (.str c5)=some r:=fY (TR b) rfl
theorem Jb(b:Hp)(r t x:aa):de (.af b.n) (.str bg) t (S0 b r .none x)=some (.none,S0 b r t x):=dU (TR b) (aI rfl) bg t
theorem Qw(b:Hp)(hd:iN b)(r t x:aa):yH (.af b.n) [aq,aG] (S0 b r t x)=some (uR (KI x r t (.int 0) (.list []) (.tup [aQ,aQ]) .none aQ (.bool false) 1 (b.n + 1)) [] [],b.up (b.n + 3)):=jH (cZ _) hd rfl rfl
theorem US(b:Hp)(hd:iN b)(hx:gj x=true):(cl F.b0 [x,.list []] b (.af b.n,S0 b .none .none x)).ok d:=lg hx hd [] (λ_ h=>nomatch h) (bP _)
noncomputable def vZ(f:Fx)(s:Vs)(D:List (Nat×ak))(n:Nat)(u:Nt):Gl:=cl F.iY [W,.str u.s] (bh f s D n) (ax (.nm u (f.next + 1)),bh (DP f u) s D (n + 5))
theorem nz(hd:∀p∈D,p.1 < n)(hu:f.u.length < LF)(u:Nt):(vZ f s D n u).ok (d+2):=by
 let X:=enc (.nm u (f.next + 1))
 let b:=bh (DP f u) s D (n + 2)
 have nd:=dX (d:=d) (f:=f) (s:=s) (k:=8) (fl:=0) (a:=.str u.s) (ks:=[]) hd rfl
 have it:=US (d:=d+1) (x:=X) (bh (f.nx (f.next + 1)) s D (n + 2)) (l9 hd) rfl
 have h1:=Jc b (bk (ref (.nm u (f.next + 1)))) X
 have h2:=JQ b (bk (ref (.nm u (f.next + 1)))) X
 have h4:=Qw b (l9 hd) (bk (ref (.nm u (f.next + 1)))) (bk (ref (.nm u (f.next + 1)))) X
 have h3:=Jb b (bk (ref (.nm u (f.next + 1)))) (bk (ref (.nm u (f.next + 1)))) X
 cases u with
 | g=>exact run [.g nd,.g it,.a 12 (Qw b (l9 hd) .none .none X)]
 | _=>exact run [.g nd,.g it,.s 15 1,.n hu,.a 15 h1,.w 0 h2,.a 15 h3,.a 12 h4]
inductive Cf(f:Fx):E->Fx->Prop
 | nm (u:Nt):Cf f (.nm u (f.next + 1)) (DP f u)
 | this:Cf f (.this (f.next + 1)) (bn f 1)
 | num (b:Bool):Cf f (.num b (f.next + 1)) (bn f 1)
inductive T7(d:Nat)(f:Fx)(s:Vs)(D:List (Nat×ak))(n:Nat)(q:Int):Prop | mk (e:E) (f':Fx):Cf f e f'->(cl F.wk [W,.int q] (bh f s D n) (ax e,bh f' s D (n + 5))).ok d->T7 d f s D n q
theorem Hg{P:Int->Prop}(h0:P 0)(h1:P 1)(h2:P 2)(h3:P 3)(h4:P 4)(h5:P 5)(h6:P 6)(h7:P 7)(q:Int):P (q % 8):=by
 have a:=Int.emod_nonneg q (show (8:Int)≠0 by decide)
 have b:=Int.emod_lt_of_pos q (show (0:Int) < 8 by decide)
 obtain ⟨m,e⟩:=Int.eq_ofNat_of_zero_le a
 rw [e]at b ⊢
 exact dZ (P:=λm:Nat=>P (m:Int)) (dZ (oK (P:=λm:Nat=>P (m:Int)) h0 h1 h2 h3 h4 h5) h6) h7 m (Int.ofNat_lt.mp b)
theorem Hq(hd:∀p∈D,p.1 < n)(hu:f.u.length < LF)(q:Int):T7 (d+3) f s D n q:=by
 have m:arith eZ (.int q) (.int 8)=some (.int (q % 8)):=b9 (by decide)
 let b:=bh (f.nx (f.next + 1)) s D (n + 2)
 revert m
 have nm:∀u,(vZ f s D n u).ok (d+2):=nz hd hu
 have nd:=λk a ha=>dX (d:=d+1) (f:=f) (s:=s) (k:=k) (fl:=0) (a:=a) (ks:=[]) hd ha
 have it:=λx hx=>US (d:=d+2) (x:=x) b (l9 hd) hx
 have hb:iN b:=l9 hd
 refine Hg (P:=λj=>arith eZ (.int q) (.int 8)=some (.int j)->T7 (d+3) f s D n q) (λm=>?_) (λm=>?_) (λm=>?_) (λm=>?_) (λm=>?_) (λm=>?_) (λm=>?_) (λm=>?_) q
 ·exact ⟨_,_,.nm .y,run [.w 7 m,.g (nm .y)]⟩
 ·exact ⟨_,_,.nm .x,run [.w 7 m,.g (nm .x)]⟩
 ·let X:=enc (.this (f.next + 1))
  let P:aa:=.tup [.str gY]
  exact ⟨_,_,.this,run [.w 7 m,.g (nd 9 aQ rfl),.g (it X rfl),.a 15 (Jc b P X),.w 0 (JQ b P X),.a 15 (Jb b P P X),.a 12 (Qw b hb P P X)]⟩
 ·exact ⟨_,_,.nm .f,run [.w 7 m,.g (nm .f)]⟩
 ·exact ⟨_,_,.nm .g,run [.w 7 m,.g (nm .g)]⟩
 ·let X:=enc (.num false (f.next + 1));exact ⟨_,_,.num false,run [.w 7 m,.g (nd 1 (.int 0) rfl),.g (it X rfl),.a 12 (Qw b hb .none .none X)]⟩
 ·let X:=enc (.num true (f.next + 1));exact ⟨_,_,.num true,run [.w 7 m,.g (nd 1 (.int 1) rfl),.g (it X rfl),.a 12 (Qw b hb .none .none X)]⟩
 ·exact ⟨_,_,.nm .y,run [.w 7 m,.g (nm .y)]⟩
end
noncomputable def qe(e:E):Bool:=match e with
 | .nm u _=>(Er u).isSome
 | .mem _ _ _ _=> !gB e
 | .idx _ _ _ _=> !gB e
 | _=>false
noncomputable def tO(f:Fx)(e:E):E:=bif qe e then e else .nm .x (f.next + 1)
noncomputable def sy(f:Fx)(e:E):Fx:=bif qe e then f else DP f .x
noncomputable def I1(n:Nat)(e:E):Nat:=bif qe e then n else n + 5
theorem tN(f:Fx)(e:E):eN (tO f e)=true:=by
 unfold tO
 cases q:qe e with
 | true=>cases e with
  | nm u=>cases u <;> first | rfl | exact nomatch q
  | mem=>rfl
  | idx=>rfl
  | _=>exact nomatch q
 | false=>rfl
theorem Gu(n:Nat)(e:E):n<=I1 n e:=by unfold I1;cases qe e <;> first | exact aO _ | exact aJ _ _
noncomputable def RU(r:Option Path):Bool:=r.elim false λp=>dot (.s1,[])==dot p ||(dot (.s2,[])==dot p ||false)
noncomputable abbrev OV:aa:=.tup [b7 (.s1,[]),b7 (.s2,[])]
theorem JF(r:Option Path)(h:Hp):ck h .in (bk r) OV=some (RU r):=match r with
 | none=>rfl
 | some p=>by
  show oS (rS (b7 (.s1,[])) (b7 p)) (λa=>oS (oS (rS (b7 (.s2,[])) (b7 p)) (λa=>oS (some false) (λb=>some (a ||b)) none) none) (λb=>some (a ||b)) none) none=_
  rw [vj,vj];rfl
theorem vd(r:Option Path)(c:Nm):RU (rU r c)=false:=match r with
 | none=>rfl
 | some p=>by
  have e:([]==fH (p.2++[c]))=false:=by rw [rn];cases fH p.2 <;> rfl
  show (Rt.s1.s++[]==p.1.s++fH (p.2++[c]) ||(Rt.s2.s++[]==p.1.s++fH (p.2++[c]) ||false))=false
  rw [tZ,tZ,e,Bool.and_false,Bool.and_false];rfl
noncomputable def Fx.addW(f:Fx)(x:aa):Fx:={f with wr:=f.wr++[x]}
noncomputable def Fx.pL(f:Fx)(x:aa):Fx:={f with rd:=f.rd++[x]}
noncomputable def Fx.vk(f:Fx)(x:aa):Fx:={f with cl:=f.cl++[x]}
section
variable{d n j:Nat}{b:Hp}{x y:aa}{e:E}{f:Fx}{s:Vs}{D:List (Nat×ak)}{K:List (Sx×aa)}{Dd Ss:List aa}{q:Int}
noncomputable def Oq(f:Fx)(s:Vs)(D:List (Nat×ak))(n:Nat)(e:E):Gl:=cl F.mD [W,ax e] (bh f s D n) (ax (tO f e),bh (sy f e) s D (I1 n e))
theorem mU(nm:(vZ f s D n .x).ok (d+2))(h0:qe e=false)(h1:[16,17].contains (bV e)=false)(h2:[8,16,17].contains (bV e)=false):(Oq f s D n e).ok (d+3):=by
 unfold Oq tO sy I1
 rw [h0]
 have i:=JF (ref e)
 cases q:RU (ref e)with
 | true=>rw [q]at i;exact run [.q 1 (lG (bV e) [16,17]),.d h1,.q 1 i,.q 1 (lG (bV e) [8,16,17]),.d h2,.g nm]
 | false=>rw [q]at i;exact run [.q 1 (lG (bV e) [16,17]),.d h1,.q 1 i,.g nm]
theorem I0{t:E}{q:Option Nm}(nm:(vZ f s D n .x).ok (d+2))(h:FW t=some q):(Oq f s D n t).ok (d+3):=by
 have hi:∀h,ck h .in (bk (ref t)) OV=some false:=λh'=>(JF (ref t) h').trans (congrArg some (E.mh (P:=λt _=>RU (ref t)=false) (λ_ c e _=>vd (ref e) c) (λ_ t e _=>match t with
  | .y _=>rfl
  | .str c _=>vd (ref e) c
  | .rO c _=>vd (ref e) c) h))
 have o:∀h,aY h (ax t) (.str bS)=some (.bool (gB t)):=λ_=>rfl
 have e:qe t= !gB t:=E.mh (P:=λt _=>qe t= !gB t) (λ_ _ _ _=>rfl) (λ_ _ _ _=>rfl) h
 have k1:[16,17].contains (bV t)=true:=E.mh (P:=λt _=>[16,17].contains (bV t)=true) (λ_ _ _ _=>rfl) (λ_ _ _ _=>rfl) h
 have k2:[8,16,17].contains (bV t)=true:=E.mh (P:=λt _=>[8,16,17].contains (bV t)=true) (λ_ _ _ _=>rfl) (λ_ _ _ _=>rfl) h
 unfold Oq tO sy I1
 rw [e]
 cases q:gB t with
 | true=>rw [q]at o;exact run [.q 1 (lG (bV t) [16,17]),.d k1,.v 0 o,.q 1 hi,.g nm]
 | false=>rw [q]at o;exact run [.q 1 (lG (bV t) [16,17]),.d k1,.v 0 o,.q 1 (lG (bV t) [8,16,17]),.d k2]
theorem sC(hd:∀p∈D,p.1 < n)(hu:f.u.length < LF)(e:E):(Oq f s D n e).ok (d+3):=by
 have nm:(vZ f s D n .x).ok (d+2):=nz hd hu .x
 cases e with
 | nm u m=>cases u <;> exact run [.g nm]
 | mem=>exact I0 nm rfl
 | idx=>exact I0 nm rfl
 | call w=>cases w <;> exact mU nm rfl rfl rfl
 | bin b=>cases b <;> exact mU nm rfl rfl rfl
 | wr k=>cases k <;> exact mU nm rfl rfl rfl
 | _=>exact mU nm rfl rfl rfl
noncomputable def OE(h:Hp)(e:E):Gl:=cl F.ip [ax e] h (cb e,h)
theorem mj(h:Hp)(ht:eN e=true):(OE h e).ok d:=E.lj (P:=λe=>(OE h e).ok d) (λ_ _=>run []) (λ_ _ _ _=>run []) (λ_ _ _ _=>run []) e ht
theorem Iu:(di b j K Dd Ss).get (.af j)=some (.list Dd):=(dG (vY j)).trans bz
theorem QG:(di b j K Dd Ss).get (.af (j+1))=some (.list Ss):=bz
theorem E7(x:aa)(hl:Dd.length < LF):cz (.af j) x (di b j K Dd Ss)=some (.none,di b j K (Dd++[x]) Ss):=(gA Iu hl).trans (congrArg (λD=>some (aa.none,({G:=b.G,D:=D,n:=j + 2}:Hp))) ((jK (vY j)).trans (congrArg _ eE)))
theorem QF(x:aa)(hl:Ss.length < LF):cz (.af (j+1)) x (di b j K Dd Ss)=some (.none,di b j K Dd (Ss++[x])):=(gA QG hl).trans (congrArg (λD=>some (aa.none,({G:=b.G,D:=D,n:=j + 2}:Hp))) eE)
theorem pV{k:Sx}{v:aa}(hj:b.n < j)(hk:bZ K k=some v):aY (di b j K Dd Ss) (.af b.n) (.str k)=some v:=fY (.cs (bU 1 hj) (.cs hj .nl)) hk
theorem ro(hj:b.n < j)(hl:K.length < LF)(k:Sx)(v:aa):de (.af b.n) (.str k) v (di b j K Dd Ss)=some (.none,di b j (sset K k v) Dd Ss):=dU (.cs (bU 1 hj) (.cs hj .nl)) hl k v
noncomputable def V0(f:Fx)(s:Vs)(D:List (Nat×ak))(n j:Nat)(K:List (Sx×aa))(Dd Ss:List aa)(x y:aa):Gl:=cl F.nF [W,.af n,y] (di (bh f s D n) j K Dd Ss) (.af n,di (bh (f.addW (.tup [x,y])) s D n) j K (Dd++[x]) (Ss++[.tup [x,y]]))
theorem Dg(hj:n < j)(hx:bZ K au=some x)(h1:bZ K aq=some (.af j))(h2:bZ K aG=some (.af (j + 1)))(hy:gj y=true)(hD:Dd.length < LF)(hS:Ss.length < LF)(hW:f.wr.length < LF):(V0 f s D n j K Dd Ss x y).ok d:=by
 let b:=bh f s D n
 have g:∀{k v} Dd Ss,bZ K k=some v->aY (di b j K Dd Ss) (.af n) (.str k)=some v:=λDd Ss h=>pV (b:=b) hj h
 exact run [.w 0 (g Dd Ss h1),.p 16 (cJ (Iu (b:=b) (j:=j) (K:=K) (Dd:=Dd) (Ss:=Ss))),.w 0 (g Dd Ss hx),.a 17 (E7 (b:=b) (j:=j) (K:=K) (Ss:=Ss) x hD),.w 0 (g (Dd++[x]) Ss h2),.p 16 (cJ (QG (b:=b) (j:=j) (K:=K) (Dd:=Dd++[x]) (Ss:=Ss))),.w 0 (g (Dd++[x]) Ss hx),.u hy,.a 17 (QF (b:=b) (j:=j) (K:=K) (Dd:=Dd++[x]) (.tup [x,y]) hS),
  .s 0 1,.w 0 (g (Dd++[x]) (Ss++[.tup [x,y]]) hx),.u hy,.n hW]
end
theorem Gy(l:List Nm):strsOf (mA l)=some (l.map Nm.s):=by
 induction l with
 | nil=>rfl
 | cons c l ih=>exact congrArg (λo=>oS o (λys=>some (c.s::ys)) none) ih
theorem HQ(l:List Nm):∀x:Sx,gi [46] (x::l.map Nm.s)=x++fH l:=by
 induction l with
 | nil=>exact λx=>(cY x).symm
 | cons c l ih=>exact λx=>by show x++[46]++gi [46] (c.s::l.map Nm.s)=x++46::(c.s++fH l);rw [ih,cL];rfl
theorem Ku(l:List Nm):((l.map Nm.s).map λx:Sx=>x.length).sum=l.length:=by
 induction l with
 | nil=>rfl
 | cons c l ih=>rw [List.map_cons,List.map_cons,List.sum_cons,ih];cases c <;> exact Nat.add_comm 1 _
theorem Bt{p:Path}(hl:p.2.length < 100000)(h:Hp):s8 h [46] (b7 p)=some (.str (dot p)):=by
 have e1:strsOf (.str p.1.s::mA p.2)=some (p.1.s::p.2.map Nm.s):=congrArg (λo=>oS o (λys=>some (p.1.s::ys)) none) (Gy p.2)
 have e2:small (((p.1.s::p.2.map Nm.s).map λx:Sx=>x.length).sum + (p.1.s::p.2.map Nm.s).length * 1)=true:=decide_eq_true (by
  rw [List.map_cons,List.sum_cons,Ku,List.length_cons,List.length_map,Nat.mul_one]
  have:p.1.s.length<=4:=by cases p.1 <;> exact bY rfl
  exact bJ (eX (eX this (Nat.le_of_lt hl)) hl) (aI rfl))
 show oS (strsOf (.str p.1.s::mA p.2)) (λl=>uO (small ((l.map λx:Sx=>x.length).sum + l.length * 1)) (some (aa.str (gi [46] l)))) none=_
 rw [e1]
 show uO (small _) _=_
 rw [e2]
 exact congrArg (λx=>some (aa.str x)) (HQ p.2 p.1.s)
noncomputable def WO(e:E):Prop:=∀p,aS e=some p->p.2.length<=sz e
theorem xM(e:E):WO e:=by
 induction e with
 | wr k e m ih=>exact λp h=>Nat.le_succ_of_le (ih p h)
 | asg k t v m ih _=>cases k with
  | op o=>cases o <;> first | exact λp h=>ai (ih p h) (ai (aJ _ _) (aJ _ _)) | exact λp h=>nomatch h
  | _=>exact λp h=>nomatch h
 | _=>exact pP _
theorem eL{P:Int->Prop}(k:Nat)(hk:0 < k)(h:∀m:Nat,m < k->P m)(q:Int):P (q % k):=by
 have b:=Int.emod_lt_of_pos q (Int.ofNat_lt.mpr hk)
 obtain ⟨m,e⟩:=Int.eq_ofNat_of_zero_le (Int.emod_nonneg q (Int.ofNat_ne_zero.mpr (Nat.ne_of_gt hk)))
 rw [e]at b ⊢
 exact h m (Int.ofNat_lt.mp b)
section
variable{d n j:Nat}{b h:Hp}{x y:aa}{e t:E}{f:Fx}{s:Vs}{D:List (Nat×ak)}{K:List (Sx×aa)}{Dd Ss:List aa}{q:Int}{o:Bool}{c:Nm}{way:Int}{v3 v6 v7 v8:aa}
noncomputable def Wf(b:Hp)(x:aa)(e:E):Gl:=cl F.b0 [x,.list [ax e]] b (.af b.n,di b (b.n + 3) (K0 x (dep e + 1) (b.n + 3)) (aE e) ((aP e).map bq))
theorem Qd(hx:gj x=true)(hd:iN b)(sm:Sm e):(Wf b x e).ok d:=by
 have i:=lg (d:=d) hx hd [e] (bt sm) (bY rfl)
 unfold qW yy yy at i
 rw [RN]at i
 exact i
noncomputable def RE(q:Int)(e:E)(v3:aa)(o:Bool)(way:Int)(v6 v7 v8:aa):Env:=[W,.int q,ax e,v3,.int (oi o),.int way,v6,v7,v8]
noncomputable abbrev VZ:ME:=.ite (.cmp .eq (.mod (.fdiv (.v 1) (.c (.int 2))) (.c (.int 3))) (.c (.int 1))) (.gc cj (.int 1)) (.c (.int 0))
noncomputable abbrev VV:ME:=.ite (.cmp .is (.item (.v 2) (.c (.str c5))) (.c .none)) (.c .none) (.add .f (.item (.v 2) (.c (.str c5))) (.tup [(.v 3)]))
noncomputable abbrev VY:ME:=.tup [(.ite (.cmp .is (.item (.v 2) (.c (.str bg))) (.c .none)) (.c (.str bO)) (.join (.c (.str gx)) (.item (.v 2) (.c (.str bg))))),(.v 3)]
noncomputable abbrev VX:ME:=.add .f (.ite (.cmp .gt (.v 4) (.c (.int 0))) (.list .f [(.tup [(.item (.v 2) (.c (.str bg))),(.attr (.item (.v 2) (.c (.str au))) bj)])]) (.list .f [])) (.item (.v 2) (.c (.str cw)))
noncomputable abbrev VW:ME:=.or [(.item (.v 2) (.c (.str bS))),(.cmp .gt (.v 4) (.c (.int 0)))]
theorem S7:((ex 14 VZ [W,.int q,y,v3,.undef,.undef,.undef,.undef,.undef] h (.int (oi (q / 2 % 3==1)),h))).ok d:=by
 cases i:q / 2 % 3==1 <;> exact run [.w 7 (gz (i:=q) (j:=2) (by decide)),.w 7 (b9 (i:=q / 2) (j:=3) (by decide)),.d i]
theorem SY(hz:Ok u e):(ex 14 VV (RE q e (.str c.s) o way v6 v7 v8) h (bk (rU (ref e) c),h)).ok d:=by
 have r:∀h,aY h (ax e) (.str c5)=some (bk (ref e)):=λ_=>rfl
 cases i:ref e with
 | none=>rw [i]at r;exact run [.v 0 r]
 | some p=>
  rw [i]at r
  have hl:(aa.str p.1.s::mA p.2).length + 1 < LF:=Nat.succ_lt_succ (Nat.succ_lt_succ (bJ ((List.length_map (λc:Nm=>aa.str c.s)).symm▸pP e p i) (cK hz.2 (aI rfl))))
  have he:bk (rU (some p) c)= .tup ((.str p.1.s::mA p.2)++[.str c.s]):=congrArg (λl=>aa.tup (.str p.1.s::l)) List.map_append
  rw [he]
  exact run [.v 0 r,.v 0 r,.n hl]
theorem S5(hz:Ok u e):(ex 14 VY (RE q e (.str c.s) o way v6 v7 v8) h (BE (some (aS e,c)),h)).ok d:=by
 have r:∀h,aY h (ax e) (.str bg)=some (bk (aS e)):=λ_=>rfl
 cases i:aS e with
 | none=>rw [i]at r;exact run [.v 0 r]
 | some p=>
  rw [i]at r
  have he:BE (some (some p,c))= .tup [.str (dot p),.str c.s]:=congrArg (λx=>aa.tup [.str x,.str c.s]) (cY (dot p))
  rw [he]
  exact run [.v 0 r,.v 0 r,.v 6 (Bt (bJ (xM e p i) hz.2))]
theorem S4(hz:Ok u e):(ex 14 VX (RE q e v3 o way v6 v7 v8) h (.list ((Cm o (aS e,bW e) (holds e)).map λx=>.tup [bk x.1,.int (x.2:Nat)]),h)).ok d:=by
 have hl:∀k,k < 5->k + ((holds e).map λx=>aa.tup [bk x.1,.int (x.2:Nat)]).length < LF:=λk hk=>(List.length_map _).symm▸eG (Nat.add_lt_add hk (bJ (oW e) hz.2)) (bY rfl)
 cases o with
 | true=>exact run [.n (hl 1 (aI rfl))]
 | false=>exact run [.n (hl 0 (aI rfl))]
theorem S3:(ex 14 VW (RE q e v3 o way v6 v7 v8) h (.bool (o ||gB e),h)).ok d:=by
 have r:∀h,aY h (ax e) (.str bS)=some (.bool (gB e)):=λ_=>rfl
 cases i:gB e with
 | true=>rw [i]at r;cases o <;> exact run [.v 0 r]
 | false=>rw [i]at r;cases o <;> exact run [.v 0 r]
end
inductive zl(f:Fx)(e:E):E->Fx->Prop
 | mem (o:Bool) (c:Nm):zl f e (.mem o c e (f.next + 1)) (bn f 1)
 | str (o:Bool) (c:Nm):zl f e (.idx o (.str c (f.next + 1)) e (f.next + 2)) (bn f 2)
 | rO (o:Bool) (c:Nm):zl f e (.idx o (.rO c (f.next + 1)) e (f.next + 2)) (bn f 2)
 | y (o:Bool):zl f e (.idx o (.y (f.next + 1)) e (f.next + 2)) (bn (DP f .y) 1)
inductive Ce(d:Nat)(f:Fx)(s:Vs)(D:List (Nat×ak))(n:Nat)(q:Int)(e:E):Prop
 | mk (t:E) (f':Fx) (n':Nat) (r:Rr):n<=n'->zl (bn f (gD e)) (eJ f.next e) t f'->r.ok=true->r.enc=enc t->(cl F.qH [W,.int q,ax e] (bh f s D n) (ax t,bh (f'.pL (mq r)) s D n')).ok d->Ce d f s D n q e
section
variable{d n:Nat}{f:Fx}{s:Vs}{D:List (Nat×ak)}{e:E}{u:List (Int×aa)}
structure vm where
 f:Fx
 n:Nat
 X:aa
 v3:aa
 r:aa
 hr:aa
 sp:Nat
 k:E
 o:Bool
noncomputable def vm.K(m:vm)(r t sp ho hr ob nm op:aa):List (Sx×aa):=KI m.X r t sp ho hr ob nm op (dep m.k + 1) (m.n + 3)
noncomputable def vm.b(m:vm)(s:Vs)(D:List (Nat×ak)):Hp:=bh m.f s D m.n
noncomputable def vm.h(m:vm)(s:Vs)(D:List (Nat×ak))(K:List (Sx×aa)):Hp:=di (m.b s D) (m.n + 3) K (aE m.k) ((aP m.k).map bq)
theorem vm.S(m:vm)(K:List (Sx×aa))(k:Sx)(v:aa)(hl:K.length < LF):de (.af m.n) (.str k) v (m.h s D K)=some (.none,m.h s D (sset K k v)):=ro (b:=m.b s D) (bU 2 (cZ _)) hl k v
theorem vm.g(m:vm)(K:List (Sx×aa))(k:Sx)(v:aa)(h:bZ K k=some v):aY (m.h s D K) (.af m.n) (.str k)=some v:=pV (b:=m.b s D) (bU 2 (cZ _)) h
noncomputable abbrev DE:aa:=.tup [aQ,aQ]
noncomputable def vm.nm(m:vm)(s:Vs)(D:List (Nat×ak))(q way:Int)(c:Nm)(v7:aa)(hz:Ok u m.k)(r:List (Fact d)):List (Fact d):=
 .l (SY (d:=d) (q:=q) (o:=m.o) (c:=c) (way:=way) (v6:=m.X) (v7:=v7) (v8:=.af m.n) (h:=m.h s D (m.K .none .none (.int 0) (.list []) DE .none aQ (.bool false))) hz):: .a 15 (m.S (s:=s) (D:=D) (m.K .none .none (.int 0) (.list []) DE .none aQ (.bool false)) c5 m.r (aI rfl))::
 .w 0 (m.g (s:=s) (D:=D) (m.K m.r .none (.int 0) (.list []) DE .none aQ (.bool false)) c5 m.r rfl):: .a 15 (m.S (s:=s) (D:=D) (m.K m.r .none (.int 0) (.list []) DE .none aQ (.bool false)) bg m.r (aI rfl))::
 .l (S5 (d:=d) (q:=q) (o:=m.o) (c:=c) (way:=way) (v6:=m.X) (v7:=v7) (v8:=.af m.n) (h:=m.h s D (m.K m.r m.r (.int 0) (.list []) DE .none aQ (.bool false))) hz):: .a 15 (m.S (s:=s) (D:=D) (m.K m.r m.r (.int 0) (.list []) DE .none aQ (.bool false)) dm m.hr (aI rfl))::r
noncomputable def vm.mR(m:vm):aa:=.list ((Cm m.o (aS m.k,bW m.k) (holds m.k)).map λx=>.tup [bk x.1,.int (x.2:Nat)])
noncomputable def vm.fin(m:vm)(s:Vs)(D:List (Nat×ak))(q way:Int)(v7:aa)(hz:Ok u m.k)(hd:∀p∈D,p.1 < m.n)(hR:m.f.rd.length < LF)(sm:Sm m.k):List (Fact d):=
 let K1:=m.K m.r m.r (.int 0) (.list []) m.hr .none aQ (.bool false)
 let K2:=m.K m.r m.r (.int m.sp) (.list []) m.hr .none aQ (.bool false)
 let K3:=m.K m.r m.r (.int m.sp) m.mR m.hr .none aQ (.bool false)
 let K4:=m.K m.r m.r (.int m.sp) m.mR m.hr (ax m.k) aQ (.bool false)
 let K5:=m.K m.r m.r (.int m.sp) m.mR m.hr (ax m.k) m.v3 (.bool false)
 let K6:=m.K m.r m.r (.int m.sp) m.mR m.hr (ax m.k) m.v3 (.bool (m.o ||gB m.k))
 [.a 15 (m.S (s:=s) (D:=D) K1 bK (.int m.sp) (aI rfl)),.l (S4 (d:=d) (q:=q) (o:=m.o) (v3:=m.v3) (way:=way) (v6:=m.X) (v7:=v7) (v8:=.af m.n) (h:=m.h s D K2) hz),.a 15 (m.S (s:=s) (D:=D) K2 cw m.mR (aI rfl)),
 .a 15 (m.S (s:=s) (D:=D) K3 dh (ax m.k) (aI rfl)),.a 15 (m.S (s:=s) (D:=D) K4 cP m.v3 (aI rfl)),.l (S3 (d:=d) (q:=q) (e:=m.k) (o:=m.o) (v3:=m.v3) (way:=way) (v6:=m.X) (v7:=v7) (v8:=.af m.n) (h:=m.h s D K5)),.a 15 (m.S (s:=s) (D:=D) K5 bS (.bool (m.o ||gB m.k)) (aI rfl)),
 .w 0 (m.g (s:=s) (D:=D) K6 aq (.af (m.n + 3)) rfl),.p 16 (cJ (Iu (b:=m.b s D) (j:=m.n + 3) (K:=K6) (Dd:=aE m.k) (Ss:=(aP m.k).map bq))),.a 17 (E7 (b:=m.b s D) (j:=m.n + 3) (K:=K6) (Dd:=aE m.k) (Ss:=(aP m.k).map bq) m.X (bJ sm.dn (aI rfl))),.n hR,
 .a 12 (jH (b:=bh (m.f.pL (.tup [m.X,.list [m.v3],.bool false])) s D m.n) (j:=m.n + 3) (K:=K6) (Dd:=aE m.k++[m.X]) (Ss:=(aP m.k).map bq) (bU 2 (cZ _)) hd rfl rfl)]
theorem Be(hd:∀p∈D,p.1 < n)(hu:f.u.length < LF)(hR:f.rd.length < LF)(q:Int)(sm:Sm e)(hz:Ok u (eJ f.next e)):Ce (d+4) f s D n q e:=by
 have h0:=pT (d:=d) (f:=f) (s:=s) hd sm
 let k:=eJ f.next e
 let f1:=bn f (gD e)
 let n1:=pz n e
 have sk:Sm k:=lu sm
 have fG:∀p∈D,p.1 < n1:=λp hp=>eG (hd p hp) (kN n e)
 have hm:∀i,n<=n1 + i:=λi=>ai (kN n e) (aJ _ i)
 obtain ⟨c,hc⟩:=Ka q
 let o:Bool:=q / 2 % 3==1
 have m2:=b9 (i:=q) (j:=2) (by decide)
 have d6:=gz (i:=q) (j:=6) (by decide)
 have m6:=b9 (i:=q / 6) (j:=6) (by decide)
 have fl:=S7 (d:=d+4) (q:=q) (y:=ax k) (v3:=.str c.s) (h:=bh f1 s D n1)
 have i1:=λ(f:Fx) (n:Nat) (x:E) (hn:∀p∈D,p.1 < n)=>Qd (d:=d+3) (b:=bh f s D n) (x:=enc x) rfl hn sk
 have nd:=λ(f:Fx) (n:Nat) K a ks fl (hn:∀p∈D,p.1 < n) ha=>dX (d:=d+2) (f:=f) (s:=s) (n:=n) (D:=D) (k:=K) (a:=a) (ks:=ks) (fl:=fl) hn ha
 let A:(w:Int)->arith eZ (.int (q / 6)) (.int 6)=some (.int w)->List (Fact (d+4))->List (Fact (d+4)):=λw m6 r=>.g h0:: .w 7 m2:: .v 0 hc:: .l fl:: .w 7 d6:: .w 7 m6::r
 have mem:∀w:Int,decide (w < 3)=true->arith eZ (.int (q / 6)) (.int 6)=some (.int w)->Ce (d+4) f s D n q e:=λw hw m6=>
  let t:=E.mem o c k (f1.next + 1)
  let m:vm:=⟨bn f1 1,n1 + 2,enc t,.str c.s,bk (rU (ref k) c),BE (some (aS k,c)),gR k,k,o⟩
  ⟨t,bn f1 1,n1 + 7,.mem o c k (f1.next + 1),hm 7,.mem o c,rfl,rfl,run (A w m6 (.d hw:: .g (nd f1 n1 16 (.str c.s) [enc k] (oi o) fG rfl):: .g (i1 (bn f1 1) (n1 + 2) t (l9 fG))::m.nm s D q w c .undef hz (.d hw::m.fin s D q w .undef hz (l9 fG) hR sk)))⟩
 have ix:∀(w:Int) (x:Ix),(w=3/\x= .str c (f1.next + 1))\/(w=4/\x= .rO c (f1.next + 1))->arith eZ (.int (q / 6)) (.int 6)=some (.int w)->Ce (d+4) f s D n q e:=λw x hx m6=>by
  let t:=E.idx o x k (f1.next + 2)
  let m:vm:=⟨bn f1 2,n1 + 4,enc t,.str c.s,bk (rU (ref k) c),BE (some (aS k,c)),0,k,o⟩
  rcases hx with ⟨rfl,rfl⟩ | ⟨rfl,rfl⟩
  ·exact ⟨t,bn f1 2,n1 + 9,.idx o _ k (f1.next + 2),hm 9,.str o c,rfl,rfl,run (A 3 m6 (.g (nd f1 n1 2 (.str c.s) [] 0 fG rfl):: .g (nd (bn f1 1) (n1 + 2) 17 aQ [enc k,Ix.enc (.str c (f1.next + 1))] (oi o) (l9 fG) rfl):: .g (i1 (bn f1 2) (n1 + 4) t (l9 fG))::m.nm s D q 3 c (Ix.enc (.str c (f1.next + 1))) hz (m.fin s D q 3 (Ix.enc (.str c (f1.next + 1))) hz (l9 fG) hR sk)))⟩
  ·exact ⟨t,bn f1 2,n1 + 9,.idx o _ k (f1.next + 2),hm 9,.rO o c,rfl,rfl,run (A 4 m6 (.g (nd f1 n1 3 (.tup [.str c.s]) [] 0 fG rfl):: .g (nd (bn f1 1) (n1 + 2) 17 aQ [enc k,Ix.enc (.rO c (f1.next + 1))] (oi o) (l9 fG) rfl):: .g (i1 (bn f1 2) (n1 + 4) t (l9 fG))::m.nm s D q 4 c (Ix.enc (.rO c (f1.next + 1))) hz (m.fin s D q 4 (Ix.enc (.rO c (f1.next + 1))) hz (l9 fG) hR sk)))⟩
 revert m6
 exact eL (P:=λw=>arith eZ (.int (q / 6)) (.int 6)=some (.int w)->Ce (d+4) f s D n q e) 6 (aI rfl) (oK (P:=λw:Nat=>arith eZ (.int (q / 6)) (.int 6)=some (.int (w:Nat))->Ce (d+4) f s D n q e) (mem 0 rfl) (mem 1 rfl) (mem 2 rfl) (ix 3 _ (.inl ⟨rfl,rfl⟩)) (ix 4 _ (.inr ⟨rfl,rfl⟩)) λm6=>
  let g:=DP f1 .y
  let t:=E.idx o (.y (f1.next + 1)) k (f1.next + 2)
  let m:vm:=⟨bn g 1,n1 + 7,enc t,.none,.none,DE,0,k,o⟩
  ⟨t,bn g 1,n1 + 12,.idx o _ k (f1.next + 2),hm 12,.y o,rfl,rfl,run (A 5 m6 (.g (nz (d:=d+1) (f:=f1) (s:=s) fG hu .y):: .g (nd g (n1 + 5) 17 aQ [enc k,enc (.nm .y (f1.next + 1))] (oi o) (l9 fG) rfl):: .g (i1 (bn g 1) (n1 + 7) t (l9 fG))::m.fin s D q 5 .undef hz (l9 fG) hR sk))⟩) (q / 6)
end
theorem wD(e:E):cb (jc e)= .tup [bk (ref e),iU e]:=by
 induction e with
 | wr k e n ih=>exact ih
 | _=>rfl
theorem qz(l:List E)(e:E):l.map bq++[bq e]=(l++[e]).map bq:=(List.map_append (f:=bq) (l₁:=l) (l₂:=[e])).symm
inductive Rf(f:Fx)(k:E):E->Fx->Prop
 | del:(obj k).isSome=true->Rf f k (.un .del k (f.next + 1)) ((bn f 1).addW (bq (.un .del k (f.next + 1))))
 | Pf (g:Us):JE g=false->Rf f k (.un g k (f.next + 1)) (bn f 1)
inductive Rb(f:Fx)(k:E):E->Fx->Prop
 | fn:Rb f k (.fn k (f.next + 1) (f.next + 2)) (bn f 2)
 | cls:Rb f k (.cls k (f.next + 1) (f.next + 2) (f.next + 3) (f.next + 4)) (bn f 4)
section
variable{d n j:Nat}{b:Hp}{f:Fx}{s:Vs}{D:List (Nat×ak)}{e k:E}{u:List (Int×aa)}{q:Int}{L:List (Nat×ak)}{K K':List (Sx×aa)}{ks:List Sx}
theorem Ny(hb:Bh b L)(hd:iN b):d4 (L++(b.n,.sd K)::b.D) b.n=L++b.D:=by
 induction L with
 | nil=>exact cC.trans (eF hd)
 | cons p L ih=>exact (dH (xt (hb p aF))).trans (congrArg (p::·) (ih λq hq=>hb q (bB _ hq)))
theorem An(hb:Bh b L)(hd:iN b)(r:d5 K ks ⟨b.G,L++b.D,n⟩=some (K',⟨b.G,b.D,n⟩)):yH (.af b.n) ks (dx b L K n)=some (.sd K',b.up n):=by
 refine (congrArg (λo=>Ij (.af b.n) ks o (dx b L K n)) (oZ hb)).trans ?_
 show aL (d5 K ks) (λkvs=>aj (aa.sd kvs)) ⟨b.G,d4 (L++(b.n,.sd K)::b.D) b.n,n⟩=_
 rw [Ny hb hd]
 exact bL r rfl
theorem lA(h:∀p∈D,p.1 < n):d4 ((n,x)::D) n=D:=cC.trans (eF h)
inductive RY(d:Nat)(f:Fx)(s:Vs)(D:List (Nat×ak))(n:Nat)(q:Int)(e:E):Prop
 | mk (t:E) (f':Fx) (n':Nat):n<=n'->Rf (dK f e) (f6 f.next e) t f'->(cl F.sU [W,.int q,ax e] (bh f s D n) (ax t,bh f' s D n')).ok d->RY d f s D n q e
theorem fO(f:Fx)(n:Nat)(e:E):n<=ng f n e:=ai (kN n e) (jr _ _)
theorem jt{nx:Nat}(h:Sm e):Sm (f6 nx e):=jq (lu h)
theorem Cz(hd:∀p∈D,p.1 < n)(hW:f.wr.length < LF)(q:Int)(sm:Sm e):RY (d+5) f s D n q e:=by
 have h0:=kY (d:=d) (f:=f) (s:=s) hd sm
 let k:=f6 f.next e
 let f1:=dK f e
 let n1:=ng f n e
 have sk:Sm k:=jt sm
 have hm:∀i,n<=n1 + i:=λi=>ai (fO f n e) (aJ _ i)
 have fG:∀p∈D,p.1 < n1:=λp hp=>eG (hd p hp) (fO f n e)
 have ob:∀h,aY h (ax k) (.str dh)=some ((obj k).elim .none ax):=λ_=>congrArg some (yb k)
 have m5:=b9 (i:=q) (j:=5) (by decide)
 have hj:n1 + 2 < n1 + 5:=bU 2 (cZ _)
 let b:=bh (bn f1 1) s D (n1 + 2)
 have nd:=λ(g:Us)=>dX (d:=d+3) (f:=f1) (s:=s) (n:=n1) (D:=D) (k:=21) (a:=.str g.s) (ks:=[enc k]) (fl:=0) fG rfl
 have it:=λ(g:Us)=>Qd (d:=d+4) (b:=b) (x:=enc (.un g k (f1.next + 1))) rfl (l9 fG) sk
 let KU:Us->Nat->List (Sx×aa):=λg sp=>KI (enc (.un g k (f1.next + 1))) .none .none (.int sp) (.list []) DE .none aQ (.bool false) (dep k + 1) (n1 + 5)
 let Ss:=(aP k).map bq
 have st:=λg=>ro (b:=b) (j:=n1 + 5) (K:=KU g 0) (Dd:=aE k) (Ss:=Ss) hj (aI rfl) bK (.int (gR k:Nat))
 let T:Us->List (Fact (d+5)):=λg=>[.g (nd g),.g (it g),.a 15 (st g),.w 0 (pV (b:=b) (j:=n1 + 5) (K:=KU g (gR k)) (Dd:=aE k) (Ss:=Ss) (k:=aq) (v:=.af (n1 + 5)) hj rfl),.p 16 (cJ (Iu (b:=b) (j:=n1 + 5) (K:=KU g (gR k)) (Dd:=aE k) (Ss:=Ss))),
  .w 0 (pV (b:=b) (j:=n1 + 5) (K:=KU g (gR k)) (Dd:=aE k) (Ss:=Ss) (k:=au) (v:=enc (.un g k (f1.next + 1))) hj rfl),.a 17 (E7 (b:=b) (j:=n1 + 5) (K:=KU g (gR k)) (Dd:=aE k) (Ss:=Ss) (enc (.un g k (f1.next + 1))) (bJ sk.dn (aI rfl))),
  .a 12 (jH (b:=b) (j:=n1 + 5) (K:=KU g (gR k)) (Dd:=aE k++[enc (.un g k (f1.next + 1))]) (Ss:=Ss) hj (l9 fG) rfl rfl)]
 have dl:∀w:Int,w=0\/w=4->arith eZ (.int q) (.int 5)=some (.int w)->RY (d+5) f s D n q e:=λw hw m5=>by
  cases o:obj k with
  | none=>
   rw [o]at ob
   rcases hw with rfl | rfl <;> exact ⟨_,_,n1 + 7,hm 7,.Pf .typ rfl,run (.g h0:: .w 7 m5:: .s 0 1:: .v 0 ob::T .typ)⟩
  | some g=>
   rw [o]at ob
   let t:=E.un .del k (f1.next + 1)
   have et:ax t=uR (KU .del (gR k)) (aE k++[enc t]) (Ss++[.tup [enc t,.list [.tup [bk (ref k),iU k]]]]):=by
    have e1:bq t= .tup [enc t,.list [.tup [bk (ref k),iU k]]]:=congrArg (λx=>aa.tup [enc t,.list [x]]) (wD k)
    rw [<-e1,qz];rfl
   have ef:(bn f1 1).addW (bq t)=(bn f1 1).addW (.tup [enc t,.list [.tup [bk (ref k),iU k]]]):=congrArg (λx=>(bn f1 1).addW (.tup [enc t,.list [x]])) (wD k)
   have ls:=Dg (d:=d+4) (f:=bn f1 1) (s:=s) (D:=D) (n:=n1 + 2) (j:=n1 + 5) (K:=KU .del (gR k)) (Dd:=aE k) (Ss:=Ss) (x:=enc t) (y:=.list [.tup [bk (ref k),iU k]]) hj rfl rfl rfl rfl (bJ sk.dn (aI rfl)) ((List.length_map bq).symm▸bJ sk.st (aI rfl)) hW
   have fz:=jH (b:=bh ((bn f1 1).addW (.tup [enc t,.list [.tup [bk (ref k),iU k]]])) s D (n1 + 2)) (j:=n1 + 5) (K:=KU .del (gR k)) (Dd:=aE k++[enc t]) (Ss:=Ss++[.tup [enc t,.list [.tup [bk (ref k),iU k]]]]) hj (l9 fG) rfl rfl
   refine ⟨t,(bn f1 1).addW (bq t),n1 + 7,hm 7,.del ((congrArg Option.isSome o).trans rfl),?_⟩
   rw [et,ef]
   rcases hw with rfl | rfl <;> exact run [.g h0,.w 7 m5,.s 0 1,.v 0 ob,.g (nd .del),.g (it .del),.a 15 (st .del),.g ls,.a 12 fz]
 revert m5
 exact eL (P:=λw=>arith eZ (.int q) (.int 5)=some (.int w)->RY (d+5) f s D n q e) 5 (aI rfl) (dZ (dZ (dZ (dZ (dZ yi (dl 0 (.inl rfl))) λm5=>⟨_,_,n1 + 7,hm 7,.Pf .not rfl,run (.g h0:: .w 7 m5::T .not)⟩) λm5=>⟨_,_,n1 + 7,hm 7,.Pf .typ rfl,run (.g h0:: .w 7 m5::T .typ)⟩) λm5=>⟨_,_,n1 + 7,hm 7,.Pf .neg rfl,run (.g h0:: .w 7 m5::T .neg)⟩) (dl 4 (.inr rfl))) q
end
section
variable{d n j:Nat}{b:Hp}{f:Fx}{s:Vs}{D:List (Nat×ak)}{e k:E}{u:List (Int×aa)}{q:Int}{L:List (Nat×ak)}{K K':List (Sx×aa)}{ks:List Sx}
inductive Ra(d:Nat)(f:Fx)(s:Vs)(D:List (Nat×ak))(n:Nat)(q:Int)(e:E):Prop
 | mk (t:E) (f':Fx) (n':Nat):n<=n'->Rb (bn f (dC e)) (aU f.next e) t f'->(cl F.qC [W,.int q,ax e] (bh f s D n) (ax t,bh f' s D n')).ok d->Ra d f s D n q e
theorem AJ(hd:∀p∈D,p.1 < n)(q:Int)(sm:Sm e):Ra (d+4) f s D n q e:=by
 have h0:=jo (d:=d) (f:=f) (s:=s) hd sm
 let k:=aU f.next e
 let f1:=bn f (dC e)
 let n1:=iR n e
 have sk:Sm k:=jq sm
 have hm:∀i,n<=n1 + i:=λi=>ai (jr n e) (aJ _ i)
 have fG:∀p∈D,p.1 < n1:=λp hp=>eG (hd p hp) (jr n e)
 have m3:=b9 (i:=q) (j:=3) (by decide)
 have nN:=λi K a ks fl ha=>dX (d:=d+2) (f:=bn f1 i) (s:=s) (n:=n1 + 2 * i) (D:=D) (k:=K) (a:=a) (ks:=ks) (fl:=fl) (l9 fG) ha
 have fn:∀w:Int,decide (w < 2)=true->arith eZ (.int q) (.int 3)=some (.int w)->Ra (d+4) f s D n q e:=λw hw m3=>by
  let b:=bh (bn f1 2) s D (n1 + 4)
  let t:=E.fn k (f1.next + 1) (f1.next + 2)
  have hb:iN b:=l9 fG
  let j:=n1 + 7
  have hj:b.n < j:=bU 2 (cZ _)
  have hj1:b.n < j + 1:=bU 1 hj
  let Ss:=(aP k).map bq
  let K:=K0 (enc t) (dep k + 1) j
  let K1:=sset K aq (.list (aE k))
  let K2:=sset K aq (.list [])
  let K3:=sset K2 aG (.list Ss)
  let env:Env:=[W,.int q,ax k,nd 71 aQ [] 0 (f1.next + 1),.af (n1 + 4),.undef,.undef]
  have B1:Bh b [(j + 1,.list Ss)]:=.cs hj1 .nl
  exact ⟨t,bn f1 2,n1 + 9,hm 9,.fn,run [.g h0,.g (nN 0 71 aQ [] 0 rfl),.w 7 m3,.d hw,.g (nN 1 27 aQ [.none,nd 71 aQ [] 0 (f1.next + 1),.none,enc k] 12 rfl),.g (Qd (d:=d+3) (b:=b) (x:=enc t) rfl hb sk),
   .t (jG (C:=aM pg (d+4)) (i:=4) (K:=K) (k:=aq) (n:=j + 2) (env:=env) (L:=[(j + 1,.list Ss),(j,.list (aE k))]) rfl (.cs hj1 (.cs hj .nl)) B1 rfl hj hb ((dG (vY j)).trans bz) ((dH (vY j)).trans (congrArg ((j + 1,ak.list Ss)::·) (cC (r:=[]))))),
   .a 15 (dU (K:=K1) (n:=j + 2) B1 (aI rfl) aq (.list [])),
   .t (jG (C:=aM pg (d+4)) (i:=4) (K:=K2) (k:=aG) (n:=j + 2) (env:=env) rfl B1 .nl rfl hj1 hb bz (cC (r:=[]))),.a 15 (dU (b:=b) (L:=[]) (K:=K3) (n:=j + 2) .nl (aI rfl) aG (.list [])),
   .a 12 (An (b:=b) (L:=[]) (n:=j + 2) (K:=sset K3 aG (.list [])) (ks:=[aq,aG]) .nl hb rfl)]⟩
 have cls:arith eZ (.int q) (.int 3)=some (.int 2)->Ra (d+4) f s D n q e:=λm3=>by
  let b:=bh (bn f1 4) s D (n1 + 8)
  let t:=E.cls k (f1.next + 1) (f1.next + 2) (f1.next + 3) (f1.next + 4)
  have hb:iN b:=l9 fG
  let j:=n1 + 11
  have hj:b.n < j:=bU 2 (cZ _)
  have hj1:b.n < j + 1:=bU 1 hj
  let Ss:=(aP k).map bq
  let K:=K0 (enc t) (dep k + 1) j
  let K1:=sset K aG (.list Ss)
  let K2:=sset K aG (.list [])
  let v3:=nd 71 aQ [] 0 (f1.next + 1)
  let v5:=nd 62 (.str jW) [.none,enc k] 0 (f1.next + 2)
  let v6:=nd 71 aQ [v5] 0 (f1.next + 3)
  let env:Env:=[W,.int q,ax k,v3,.af (n1 + 8),v5,v6]
  have B1:Bh b [(j,.list (aE k))]:=.cs hj .nl
  have fz:d5 K2 [aq,aG] ⟨b.G,(j,.list (aE k))::b.D,j + 2⟩=some (sset K2 aq (.list (aE k)),⟨b.G,b.D,j + 2⟩):=bL (NL (K:=K2) (k:=aq) rfl bz (lA λp hp=>cK (hb p hp) hj)) rfl
  exact ⟨t,bn f1 4,n1 + 13,hm 13,.cls,run [.g h0,.g (nN 0 71 aQ [] 0 rfl),.w 7 m3,.g (nN 1 62 (.str jW) [.none,enc k] 0 rfl),.g (nN 2 71 aQ [v5] 0 rfl),.g (nN 3 61 aQ [.none,.none,.none,v3,v6] 0 rfl),.g (Qd (d:=d+3) (b:=b) (x:=enc t) rfl hb sk),
   .t (jG (C:=aM pg (d+4)) (i:=4) (K:=K) (k:=aG) (n:=j + 2) (env:=env) (L:=[(j + 1,.list Ss),(j,.list (aE k))]) rfl (.cs hj1 (.cs hj .nl)) B1 rfl hj1 hb bz (cC.trans ((dH (r:=[]) (UC j)).trans rfl))),
   .a 15 (dU (K:=K1) (n:=j + 2) B1 (aI rfl) aG (.list [])),.a 12 (An (b:=b) (L:=[(j,.list (aE k))]) (n:=j + 2) (K:=K2) B1 hb fz)]⟩
 revert m3
 exact eL (P:=λw=>arith eZ (.int q) (.int 3)=some (.int w)->Ra (d+4) f s D n q e) 3 (aI rfl) (dZ (dZ (dZ yi (fn 0 rfl)) (fn 1 rfl)) cls) q
end
noncomputable def Fx.TZ(f:Fx)(e:E):Fx:={f with own:=kJ f.own (bW e:Int) (qx (dn e))}
noncomputable def IK(g:Fx)(A:E):Fx:=((bn g 1).addW (bq A)).TZ A
inductive NH(f:Fx)(t:E):Pk->Fx->Prop
 | op (o:Op):NH f t (.op o) f
 | p4:NH f t (.p4 (f.next + 1) (f.next + 2)) ((bn f 2).pL (mq (.pat (.p4 (f.next + 1) (f.next + 2)) t)))
 | p5:NH f t (.p5 (f.next + 1) (f.next + 2) (f.next + 3) (f.next + 4)) ((bn (DP (bn f 1) .x) 2).pL (mq (.pat (.p5 (f.next + 1) (f.next + 2) (f.next + 3) (f.next + 4)) t)))
 | p6:NH f t (.p6 (f.next + 1) (f.next + 2)) ((bn f 2).pL (mq (.pat (.p6 (f.next + 1) (f.next + 2)) t)))
section
variable{d n i i' m:Nat}{b:Hp}{f:Fx}{s:Vs}{D:List (Nat×ak)}{e k p q t v:E}{u:List (Int×aa)}{K:List (Sx×aa)}{l l' xs:List aa}{x y:aa}
theorem RM(p q:Nat):max (max 1 (p + 1)) (q + 1)=max p q + 1:=by rw [RN,Nat.succ_max_succ]
theorem UR(hx:gj x=true)(hd:iN b)(sp:Sm p)(sq:Sm q):(cl F.b0 [x,.list [ax p,ax q]] b (.af b.n,di b (b.n + 5) (K0 x (max (dep p) (dep q) + 1) (b.n + 5)) (aE p++aE q) ((aP p).map bq++(aP q).map bq))).ok d:=by
 have h:=lg (d:=d) hx hd [p,q] (λe he=>(List.mem_cons.mp he).elim (λh=>h▸sp) (bt sq e)) (bY rfl)
 unfold qW yy yy yy at h
 rw [RM]at h
 exact h
noncomputable abbrev d2(b:Hp)(i:Nat)(l:List aa)(i':Nat)(l':List aa)(K:List (Sx×aa))(m:Nat):Hp:=dx b [(i,.list l),(i',.list l')] K m
theorem QR:(d2 b i l i' l' K m).get (.af i)=some (.list l):=bz
theorem QQ(h:Nat.beq i i'=false):(d2 b i l i' l' K m).get (.af i')=some (.list l'):=(dG h).trans bz
theorem QP(x:aa)(hl:l.length < LF):cz (.af i) x (d2 b i l i' l' K m)=some (.none,d2 b i (l++[x]) i' l' K m):=(gA QR hl).trans (congrArg (λD=>some (aa.none,({G:=b.G,D:=D,n:=m}:Hp))) eE)
theorem QO(h:Nat.beq i i'=false)(x:aa)(hl:l'.length < LF):cz (.af i') x (d2 b i l i' l' K m)=some (.none,d2 b i l i' (l'++[x]) K m):=(gA (QQ h) hl).trans (congrArg (λD=>some (aa.none,({G:=b.G,D:=D,n:=m}:Hp))) ((jK h).trans (congrArg _ eE)))
theorem Tz(h1:b.n < i)(h2:b.n < i'):Bh b [(i,.list l),(i',.list l')]:=.cs h1 (.cs h2 .nl)
noncomputable def Ta(f:Fx)(s:Vs)(D:List (Nat×ak))(n i i' m:Nat)(K:List (Sx×aa))(l l':List aa)(x y:aa):Gl:=cl F.nF [W,.af n,y] (d2 (bh f s D n) i l i' l' K m) (.af n,d2 (bh (f.addW (.tup [x,y])) s D n) i (l++[x]) i' (l'++[.tup [x,y]]) K m)
theorem GO(h1:n < i)(h2:n < i')(h:Nat.beq i i'=false)(hx:bZ K au=some x)(k1:bZ K aq=some (.af i))(k2:bZ K aG=some (.af i'))(hy:gj y=true)(hD:l.length < LF)(hS:l'.length < LF)(hW:f.wr.length < LF):(Ta f s D n i i' m K l l' x y).ok d:=by
 let b:=bh f s D n
 have g:∀{k v} l l',bZ K k=some v->aY (d2 b i l i' l' K m) (.af n) (.str k)=some v:=λl l' h=>fY (b:=b) (Tz h1 h2) h
 exact run [.w 0 (g l l' k1),.p 16 (cJ (QR (b:=b) (i:=i) (l:=l) (i':=i') (l':=l') (K:=K) (m:=m))),.w 0 (g l l' hx),.a 17 (QP (b:=b) (i:=i) (i':=i') (l':=l') (K:=K) (m:=m) x hD),.w 0 (g (l++[x]) l' k2),.p 16 (cJ (QQ (b:=b) (l:=l++[x]) (l':=l') (K:=K) (m:=m) h)),
  .w 0 (g (l++[x]) l' hx),.u hy,.a 17 (QO (b:=b) (l:=l++[x]) (K:=K) (m:=m) h (.tup [x,y]) hS),.s 0 1,.w 0 (g (l++[x]) (l'++[.tup [x,y]]) hx),.u hy,.n hW]
theorem ui{L:List (Nat×ak)}(hb:∀p∈L,i < p.1)(hi:i < n)(hd:∀p∈D,p.1 < i):yH (.af i) [] (dx (bh f s ((i,.list l)::D) n) L K m)=some (.list l,dx (bh f s D n) L K m):=by
 have h:∀o:List (Nat×ak),d0 (L++(n,.sd K)::(i,ak.list l)::D) i=some (.list l)/\d4 (L++(n,.sd K)::(i,ak.list l)::D) i=L++(n,.sd K)::D:=λ_=>by
  induction L with
  | nil=>exact ⟨(dG (xt hi)).trans bz,(dH (xt hi)).trans (congrArg _ (cC.trans (eF hd)))⟩
  | cons p L ih=>
   have h:=ih λq hq=>hb q (bB _ hq)
   have hp:=xt (hb p aF)
   exact ⟨(dG hp).trans h.1,(dH hp).trans (congrArg (p::·) h.2)⟩
 obtain ⟨h1,h2⟩:=h []
 exact (kQ (h:=dx (bh f s ((i,.list l)::D) n) L K m) h1).trans (congrArg (λD=>some (aa.list l,({G:=(bh f s [] n).G,D:=D,n:=m}:Hp))) h2)
noncomputable def tp(f:Fx)(s:Vs)(i:Nat)(l:List aa)(D:List (Nat×ak))(n:Nat):Hp:=bh f s ((i,.list l)::D) n
theorem xH:(tp f s i l D n).get (.af i)=some (.list l):=bz
theorem Km(x:aa)(hl:l.length < LF):cz (.af i) x (tp f s i l D n)=some (.none,tp f s i (l++[x]) D n):=(gA xH hl).trans (congrArg (λD=>some (aa.none,bh f s D n)) eE)
theorem xI(hd:∀p∈D,p.1 < i):yH (.af i) [] (tp f s i l D n)=some (.list l,bh f s D n):=(kQ xH).trans (congrArg (λD=>some (aa.list l,bh f s D n)) (lA hd))
theorem CM(h:Nat.beq i i'=false):(tp f s i l ((i',.list l')::D) n).get (.af i')=some (.list l'):=(dG h).trans bz
theorem Ks(h:Nat.beq i i'=false)(x:aa)(hl:l'.length < LF):cz (.af i') x (tp f s i l ((i',.list l')::D) n)=some (.none,tp f s i l ((i',.list (l'++[x]))::D) n):=(gA (CM h) hl).trans (congrArg (λD=>some (aa.none,bh f s D n)) ((jK h).trans (congrArg _ eE)))
theorem Lh(q:Int):∃o:Op,∀h,aY h (.tup [.str du,.str cI,.str dw,.str dq,.str dr,.str du,.str du]) (.int (q % 7))=some (.str o.s):=
 eL (P:=λj=>∃o:Op,∀h,aY h (.tup [.str du,.str cI,.str dw,.str dq,.str dr,.str du,.str du]) (.int j)=some (.str o.s)) 7 (aI rfl)
  (dZ (oK (P:=λj:Nat=>∃o:Op,∀h,aY h (.tup [.str du,.str cI,.str dw,.str dq,.str dr,.str du,.str du]) (.int (j:Nat))=some (.str o.s)) ⟨.set,λ_=>rfl⟩ ⟨.add,λ_=>rfl⟩ ⟨.and,λ_=>rfl⟩ ⟨.or,λ_=>rfl⟩ ⟨.nul,λ_=>rfl⟩ ⟨.set,λ_=>rfl⟩) ⟨.set,λ_=>rfl⟩) q
end
inductive NG(d:Nat)(f:Fx)(s:Vs)(D:List (Nat×ak))(n:Nat)(q:Int)(e0 e1:E):Prop
 | mk (k:Pk) (g:Fx) (n':Nat):n<=n'->NH (bn (sy f e0) (dC e1)) (tO f e0) k g->(cl F.qJ [W,.int q,.list [ax e0,ax e1]] (bh f s D n) (ax (.asg k (tO f e0) (aU (sy f e0).next e1) (g.next + 1)),bh (IK g (.asg k (tO f e0) (aU (sy f e0).next e1) (g.next + 1))) s D n')).ok d->NG d f s D n q e0 e1
structure W6(f f':Fx):Prop where
 wr:f'.wr=f.wr
 rd:f'.rd=f.rd
 own:f'.own=f.own
 u:f'.u.length<=f.u.length + 1
theorem CJ(f:Fx)(e:E):W6 f (sy f e):=by
 unfold sy
 cases qe e with
 | true=>exact ⟨rfl,rfl,rfl,dJ _⟩
 | false=>exact ⟨rfl,rfl,rfl,nK⟩
theorem CK{f:Fx}{e:E}(h:Sm e):Sm (tO f e):=by
 unfold tO
 cases qe e with
 | true=>exact h
 | false=>exact ⟨bP _,bP _⟩
theorem AO{t:E}(h:eN t=true):aS t=ref t:=E.lj (P:=λt=>aS t=ref t) (λ_ _=>rfl) (λ_ _ _ _=>rfl) (λ_ _ _ _=>rfl) t h
theorem DT(o:Op)(h:Hp):ck h .ne (.str o.s) (.str cI)=some o.tests:=by cases o <;> rfl
structure jV where
 q:Int
 a2:aa
 j:Int
 t:E
 v:E
 k:Pk
 g:Fx
 m:Nat
 i:Nat
 Vv:aa
 Vt:aa
noncomputable def jV.A(a:jV):E:=.asg a.k a.t a.v (a.g.next + 1)
noncomputable def jV.sp(a:jV):List aa:=(fM a.A).map cb
noncomputable def jV.K(a:jV)(T:aa)(sp:Int)(dl sl:aa):List (Sx×aa):=[(au,enc a.A),(c5,.none),(bg,T),(bK,.int sp),(cw,.list []),(dm,DE),(dh,.none),(cP,aQ),(bS,.bool false),(eM,.int (max (dep a.t) (dep a.v) + 1:Nat)),(aq,dl),(aG,sl)]
noncomputable def jV.D0(a:jV):List aa:=aE a.t++aE a.v
noncomputable def jV.D1(a:jV):List aa:=a.D0++a.k.v9 a.t
noncomputable def jV.S0(a:jV):List aa:=(aP a.t).map bq++(aP a.v).map bq
noncomputable def jV.b(a:jV)(s:Vs)(D:List (Nat×ak)):Hp:=bh (bn a.g 1) s D (a.m + 2)
noncomputable def jV.env(a:jV):Env:=[W,.int a.q,a.a2,ax a.t,ax a.v,.int a.j,.str a.k.a,.af a.i,a.k.pat a.t,.list (a.k.v9 a.t),a.Vv,a.Vt,.af (a.m + 2),.undef]
section
variable{d n:Nat}{f:Fx}{s:Vs}{D:List (Nat×ak)}
theorem jV.eD(a:jV):a.D1++[enc a.A]=aE a.A:=(cL ..).trans (cL ..)
theorem jV.eS(a:jV):a.S0++[bq a.A]=(aP a.A).map bq:=(cL ..).trans ((congrArg ((aP a.t).map bq++·) (qz _ _)).trans List.map_append.symm)
theorem jV.eA(a:jV){T:aa}(h:bk (aS a.A)=T):ax a.A= .sd (a.K T (bW a.A:Nat) (.list (a.D1++[enc a.A])) (.list (a.S0++[bq a.A]))):=by rw [a.eD,a.eS,<-h];rfl
theorem jV.lD(a:jV)(st:Sm a.t)(sv:Sm a.v):a.D0.length + (a.k.v9 a.t).length < 300000:=by
 have h:(a.k.v9 a.t).length<=1:=by cases a.k <;> first | exact aO _ | exact bP _
 exact bJ (eX (List.length_append.symm▸eX st.dn sv.dn:a.D0.length<=200000) h) (aI rfl)
theorem jV.lS(a:jV)(st:Sm a.t)(sv:Sm a.v):a.S0.length < LF:=bJ (List.length_append.symm▸eX ((List.length_map bq).symm▸st.st) ((List.length_map bq).symm▸sv.st):a.S0.length<=200000) (aI rfl)
noncomputable def jV.f1(a:jV)(s:Vs)(D:List (Nat×ak))(hd:∀p∈D,p.1 < a.i)(hi:a.i < a.m)(st:Sm a.t)(sv:Sm a.v)(r:List (Fact (d+4))):List (Fact (d+4)):=
 let D':=(a.i,ak.list a.sp)::D
 have mR:∀{k},∀p∈D',p.1 < a.m + k:=λ{k} p hp=>(List.mem_cons.mp hp).elim (λe=>e▸bU k hi) λhp=>bU k (cK (hd p hp) hi)
 let b:=a.b s D'
 have h7:b.n < a.m + 7:=bU 4 (cZ _)
 have B1:Bh b [(a.m + 8,.list a.S0)]:=.cs (Nat.lt_succ_of_lt h7) .nl
 .g (dX (d:=d+2) (f:=a.g) (s:=s) (n:=a.m) (D:=D') (k:=25) (a:=.str a.k.a) (ks:=[a.k.pat a.t,enc a.v]) (fl:=0) (mR (k:=0)) rfl):: .g (UR (d:=d+3) (b:=b) (x:=enc a.A) rfl mR st sv)::
 .t (jG (C:=aM pg (d+4)) (i:=12) (K:=a.K .none 0 (.af (a.m + 7)) (.af (a.m + 8))) (k:=aq) (n:=a.m + 9) (env:=a.env) (L:=[(a.m + 8,.list a.S0),(a.m + 7,.list a.D0)]) rfl (.cs (Nat.lt_succ_of_lt h7) (.cs h7 .nl)) B1 rfl h7 mR ((dG (vY (a.m + 7))).trans bz) ((dH (vY (a.m + 7))).trans (congrArg ((a.m + 8,ak.list a.S0)::·) (cC (r:=[])))))::
 .w 0 (fY B1 (K:=a.K .none 0 (.list a.D0) (.af (a.m + 8))) (k:=aq) (v:=.list a.D0) (n:=a.m + 9) rfl):: .n (cK (a.lD st sv) (aI rfl))::
 .a 15 (dU (K:=a.K .none 0 (.list a.D0) (.af (a.m + 8))) (n:=a.m + 10) (.cs (i:=a.m + 9) (o:=.list a.D1) (bU 2 h7) B1) (aI rfl) aq (.af (a.m + 9)))::r
noncomputable def jV.K2(a:jV)(T:aa)(sp:Int):List (Sx×aa):=a.K T sp (.af (a.m + 9)) (.af (a.m + 8))
theorem jV.B2(a:jV)(s:Vs)(D:List (Nat×ak)):Bh (a.b s D) [(a.m + 9,.list a.D1),(a.m + 8,.list a.S0)]:=.cs (i:=a.m + 9) (bU 6 (cZ _)) (.cs (i:=a.m + 8) (bU 5 (cZ _)) .nl)
noncomputable def jV.f2(a:jV)(s:Vs)(D:List (Nat×ak))(hd:∀p∈D,p.1 < a.i)(hi:a.i < a.m)(st:Sm a.t)(sv:Sm a.v)(hW:a.g.wr.length < LF)(hO:a.g.own.length < LF)(T:aa):List (Fact (d+4)):=
 let D':=(a.i,ak.list a.sp)::D
 have fG:∀{k},∀p∈D,p.1 < a.m + k:=λ{k} p hp=>bU k (cK (hd p hp) hi)
 let m:=a.m + 10
 let N:Int:=(a.g.next + 1:Nat)
 let b':=bh ((bn a.g 1).addW (bq a.A)) s D (a.m + 2)
 let D2:=a.D1++[enc a.A]
 let S2:=a.S0++[bq a.A]
 have hD1:a.D1.length < 300000:=List.length_append.symm▸a.lD st sv
 have hD2:D2.length < LF:=List.length_append.symm▸(bJ hD1 (aI rfl):a.D1.length + 1 < LF)
 have B:Bh b' [(a.m + 9,.list D2),(a.m + 8,.list S2)]:=.cs (i:=a.m + 9) (bU 6 (cZ _)) (.cs (i:=a.m + 8) (bU 5 (cZ _)) .nl)
 have rs:d5 (a.K2 T N) [aq,aG] ⟨b'.G,[(a.m + 9,.list D2),(a.m + 8,.list S2)]++b'.D,m⟩=some (a.K T N (.list D2) (.list S2),⟨b'.G,b'.D,m⟩):=
  bL (NL (K:=a.K2 T N) (k:=aq) (m:=a.m + 9) rfl bz (lA λp hp=>(List.mem_cons.mp hp).elim (λe=>e▸cZ _) (fG p))) (bL (NL (K:=a.K T N (.list D2) (.af (a.m + 8))) (k:=aG) (m:=a.m + 8) rfl bz (lA fG)) rfl)
 [.w 0 (fY (a.B2 s D') (K:=a.K2 T 0) (k:=au) (v:=enc a.A) (n:=m) rfl),.a 15 (dU (K:=a.K2 T 0) (n:=m) (a.B2 s D') (aI rfl) bK (.int N)),
 .a 12 (ui (f:=bn a.g 1) (s:=s) (i:=a.i) (l:=a.sp) (D:=D) (n:=a.m + 2) (m:=m) (K:=a.K2 T N) (L:=[(a.m + 9,.list a.D1),(a.m + 8,.list a.S0)]) (λp hp=>cK (bU 2 hi) (a.B2 s D' p hp)) (bU 2 hi) hd),
 .g (GO (d:=d+3) (f:=bn a.g 1) (s:=s) (D:=D) (n:=a.m + 2) (i:=a.m + 9) (i':=a.m + 8) (m:=m) (K:=a.K2 T N) (l:=a.D1) (l':=a.S0) (x:=enc a.A) (y:=.list a.sp) (bU 6 (cZ _)) (bU 5 (cZ _)) (vY _) rfl rfl rfl rfl (cK hD1 (aI rfl)) (a.lS st sv) hW),
 .a 12 (An (b:=b') (K:=a.K2 T N) (n:=m) B fG rs),
 .n hD2,.m (ly (C:=aM pg (d+4)) (i:=13) (env:=a.env.set 12 (.sd (a.K T N (.list D2) (.list S2)))) (bh ((bn a.g 1).addW (bq a.A)) s D m) (λx h q=>uN q) (a.eD▸nX a.A)),.n hO]
theorem B8(hd:∀p∈D,p.1 < n)(hu:f.u.length < 1000000)(hW:f.wr.length < LF)(hR:f.rd.length < LF)(hO:f.own.length < LF)(q:Int){e0 e1:E}(s0:Sm e0)(s1:Sm e1):NG (d+4) f s D n q e0 e1:=by
 have X:=CJ f e0
 have c1:=sC (d:=d) (f:=f) (s:=s) hd (cK hu (aI rfl)) e0
 have fG:∀p∈D,p.1 < I1 n e0:=λp hp=>eG (hd p hp) (Gu n e0)
 have c2:=jo (d:=d) (f:=sy f e0) (s:=s) fG s1
 let t:=tO f e0
 let v:=aU (sy f e0).next e1
 let f2:=bn (sy f e0) (dC e1)
 let n2:=iR (I1 n e0) e1
 have hn:n<=n2:=ai (Gu n e0) (jr _ _)
 have hm:∀i,n<=n2 + i:=λi=>ai hn (aJ _ i)
 have hd2:∀p∈D,p.1 < n2:=λp hp=>eG (hd p hp) hn
 have htg:eN t=true:=tN f e0
 have st:Sm t:=CK s0
 have sv:Sm v:=jq s1
 have sp:=λh=>mj (d:=d+3) (e:=t) h htg
 have m7:=b9 (i:=q) (j:=7) (by decide)
 have hu2:f2.u.length < LF:=bJ X.u (eG (Nat.succ_lt_succ hu) (aI rfl))
 have hW2:f2.wr.length < LF:=X.wr.symm▸hW
 have hR2:f2.rd.length < LF:=X.rd.symm▸hR
 have hO2:f2.own.length < LF:=X.own.symm▸hO
 let a2:aa:=.list [ax e0,ax e1]
 let sr:=cb t
 let Dl:=λl:List aa=>(n2,ak.list l)::D
 have hD:∀{l k},0 < k->∀p∈Dl l,p.1 < n2 + k:=λh p hp=>(List.mem_cons.mp hp).elim (λe=>e▸kW h) λhp=>bU _ (hd2 p hp)
 have nN:=λ(f:Fx) i D K a ks fl (hD:∀p∈D,p.1 < n2 + i) ha=>dX (d:=d+2) (f:=f) (s:=s) (n:=n2 + i) (D:=D) (k:=K) (a:=a) (ks:=ks) (fl:=fl) hD ha
 have op:∀j:Int,decide (j < 4)=true->decide (j > 3)=false->arith eZ (.int q) (.int 7)=some (.int j)->NG (d+4) f s D n q e0 e1:=λj h1 h2 m7=>by
  obtain ⟨o,ho⟩:=Lh (q / 7)
  let a:jV:=⟨q,a2,j,t,v,.op o,f2,n2 + 1,n2,.undef,.undef⟩
  have hi:a.i < a.m:=cZ _
  let P:=λr=>Fact.g c1:: .g c2:: .w 7 m7:: .d h1:: .w 7 (gz (i:=q) (j:=7) (by decide)):: .w 7 (b9 (i:=q / 7) (j:=7) (by decide)):: .v 0 ho:: .g (sp (bh f2 s D n2)):: .d h2::a.f1 s D hd2 hi st sv r
  refine ⟨.op o,f2,n2 + 11,hm 11,.op o,?_⟩
  cases j2:o.tests with
  | true=>
   have eT:bk (aS a.A)=bk (ref t):=by show bk (bif o.tests then aS t else none)=_;rw [j2,AO htg];rfl
   rw [show ax (.asg (.op o) t v (f2.next + 1))=_ from a.eA eT]
   exact run (P (.d h1:: .q 1 (DT o):: .b j2:: .a 15 (dU (K:=a.K2 .none 0) (n:=a.m + 10) (a.B2 s ((n2,.list a.sp)::D)) (aI rfl) bg (bk (ref t)))::a.f2 s D hd2 hi st sv hW2 hO2 (bk (ref t))))
  | false=>
   have eT:bk (aS a.A)= .none:=by show bk (bif o.tests then aS t else none)=_;rw [j2];rfl
   rw [show ax (.asg (.op o) t v (f2.next + 1))=_ from a.eA eT]
   exact run (P (.d h1:: .q 1 (DT o):: .b j2::a.f2 s D hd2 hi st sv hW2 hO2 .none))
 have p46:∀(j:Int) (k:Pk) (c:Sx) (K:Int) (ks:List aa),(j=4/\k= .p4 (f2.next + 1) (f2.next + 2))\/(j=6/\k= .p6 (f2.next + 1) (f2.next + 2))->arith eZ (.int q) (.int 7)=some (.int j)->NG (d+4) f s D n q e0 e1:=λj k c K ks h m7=>by
  rcases h with ⟨rfl,rfl⟩ | ⟨rfl,rfl⟩
  ·let bd:=bind fE (enc t) 0 (f2.next + 1)
   let a:jV:=⟨q,a2,4,t,v,.p4 (f2.next + 1) (f2.next + 2),(bn f2 2).pL (mq (.pat (.p4 (f2.next + 1) (f2.next + 2)) t)),n2 + 6,n2,.list [bd],.undef⟩
   have hi:a.i < a.m:=kW (aI rfl)
   refine ⟨_,_,n2 + 16,hm 16,.p4,?_⟩
   rw [show ax (.asg (.p4 (f2.next + 1) (f2.next + 2)) t v (a.g.next + 1))=_ from a.eA rfl]
   exact run (.g c1:: .g c2:: .w 7 m7:: .g (sp (bh f2 s D n2)):: .g (nN f2 1 (Dl [sr]) 36 (.str fE) [enc t,.none] 0 (hD (aI rfl)) rfl):: .a 12 (xI (f:=bn f2 1) (s:=s) (i:=n2 + 3) (l:=[bd]) (D:=Dl [sr]) (n:=n2 + 4) (hD (aI rfl))):: .g (nN (bn f2 1) 4 (Dl [sr]) 34 aQ [bd] 0 (hD (aI rfl)) rfl):: .n hR2::a.f1 s D hd2 hi st sv (a.f2 s D hd2 hi st sv hW2 hO2 .none))
  ·let bd:=bind [] (enc t) 0 (f2.next + 1)
   let a:jV:=⟨q,a2,6,t,v,.p6 (f2.next + 1) (f2.next + 2),(bn f2 2).pL (mq (.pat (.p6 (f2.next + 1) (f2.next + 2)) t)),n2 + 6,n2,.list [bd],.undef⟩
   have hi:a.i < a.m:=kW (aI rfl)
   refine ⟨_,_,n2 + 16,hm 16,.p6,?_⟩
   rw [show ax (.asg (.p6 (f2.next + 1) (f2.next + 2)) t v (a.g.next + 1))=_ from a.eA rfl]
   exact run (.g c1:: .g c2:: .w 7 m7:: .g (sp (bh f2 s D n2)):: .g (nN f2 1 (Dl [sr]) 36 aQ [enc t,.none] 0 (hD (aI rfl)) rfl):: .a 12 (xI (f:=bn f2 1) (s:=s) (i:=n2 + 3) (l:=[bd]) (D:=Dl [sr]) (n:=n2 + 4) (hD (aI rfl))):: .g (nN (bn f2 1) 4 (Dl [sr]) 35 aQ [.none,bd] 0 (hD (aI rfl)) rfl):: .n hR2::a.f1 s D hd2 hi st sv (a.f2 s D hd2 hi st sv hW2 hO2 .none))
 have p5:arith eZ (.int q) (.int 7)=some (.int 5)->NG (d+4) f s D n q e0 e1:=λm7=>by
  let g:=DP (bn f2 1) .x
  let x:=E.nm .x (f2.next + 2)
  let b1:=bind ou (enc t) 0 (f2.next + 1)
  let b2:=bind [] (enc x) 8192 (f2.next + 3)
  let k:Pk:=.p5 (f2.next + 1) (f2.next + 2) (f2.next + 3) (f2.next + 4)
  let a:jV:=⟨q,a2,5,t,v,k,(bn g 2).pL (mq (.pat k t)),n2 + 13,n2,.list [b1,b2],ax x⟩
  have hi:a.i < a.m:=kW (aI rfl)
  have ne:Nat.beq (n2 + 3) n2=false:=xt (kW (aI rfl))
  have d3:∀{l l' k},3 < k->∀p∈(n2 + 3,ak.list l')::Dl l,p.1 < n2 + k:=λh p hp=>(List.mem_cons.mp hp).elim (λe=>e▸Nat.add_lt_add_left h n2) (hD (bJ (bP _) h) p)
  refine ⟨_,_,n2 + 23,hm 23,.p5,?_⟩
  rw [show ax (.asg k t v (a.g.next + 1))=_ from a.eA rfl]
  exact run (.g c1:: .g c2:: .w 7 m7:: .g (sp (bh f2 s D n2)):: .g (nN f2 1 (Dl [sr]) 36 (.str ou) [enc t,.none] 0 (hD (aI rfl)) rfl):: .g (nz (d:=d+1) (f:=bn f2 1) (s:=s) (D:=(n2 + 3,.list [b1])::Dl [sr]) (n:=n2 + 4) (d3 (aI rfl)) hu2 .x)::
   .p 16 (cJ (CM (f:=g) (s:=s) (i:=n2 + 3) (l:=[b1]) (i':=n2) (l':=[sr]) (D:=D) (n:=n2 + 9) ne)):: .g (mj (d:=d+3) (tp g s (n2 + 3) [b1] (Dl [sr]) (n2 + 9)) (e:=x) rfl):: .a 17 (Ks (f:=g) (s:=s) (l:=[b1]) (l':=[sr]) (D:=D) (n:=n2 + 9) ne (cb x) (aI rfl))::
   .p 16 (cJ (xH (f:=g) (s:=s) (i:=n2 + 3) (l:=[b1]) (D:=Dl [sr,cb x]) (n:=n2 + 9))):: .g (nN g 9 ((n2 + 3,.list [b1])::Dl [sr,cb x]) 36 aQ [enc x,.none] 8192 (d3 (aI rfl)) rfl):: .a 17 (Km (f:=bn g 1) (s:=s) (i:=n2 + 3) (l:=[b1]) (D:=Dl [sr,cb x]) (n:=n2 + 11) b2 (aI rfl))::
   .a 12 (xI (f:=bn g 1) (s:=s) (i:=n2 + 3) (l:=[b1,b2]) (D:=Dl [sr,cb x]) (n:=n2 + 11) (hD (aI rfl))):: .g (nN (bn g 1) 11 (Dl [sr,cb x]) 34 aQ [b1,b2] 0 (hD (aI rfl)) rfl):: .n hR2::a.f1 s D hd2 hi st sv (a.f2 s D hd2 hi st sv hW2 hO2 .none))
 revert m7
 exact eL (P:=λw=>arith eZ (.int q) (.int 7)=some (.int w)->NG (d+4) f s D n q e0 e1) 7 (aI rfl) (dZ (oK (P:=λw:Nat=>arith eZ (.int q) (.int 7)=some (.int (w:Nat))->NG (d+4) f s D n q e0 e1) (op 0 rfl rfl) (op 1 rfl rfl) (op 2 rfl rfl) (op 3 rfl rfl) (p46 4 _ [] 0 [] (.inl ⟨rfl,rfl⟩)) p5) (p46 6 _ [] 0 [] (.inr ⟨rfl,rfl⟩))) q
end
noncomputable def hZ(sp:Bool)(f:Fx)(x:E):Option Nat:=bif sp then some (f.next + dC x + 1)else none
noncomputable def dF(sp:Bool)(f:Fx)(x:E):Fx:=bif sp then (bn (bn f (dC x)) 1).pL (mq (.Cg (aU f.next x) (f.next + dC x + 1)))else bn f (dC x)
noncomputable def B9(sp:Bool)(n:Nat)(x:E):Nat:=bif sp then iR n x + 2 else iR n x
noncomputable abbrev Lo:Type:=List (Nat×ak)
noncomputable def Ge(L:Lo)(m:Nat):Prop:=∀p∈L,m < p.1
section
variable{d n m i:Nat}{f:Fx}{s:Vs}{D L R:Lo}{e x:E}{xs P A N M:List aa}{q:Int}{r:aa×Hp}
theorem Ge.nil:Ge [] m:=λ_ h=>nomatch h
theorem Ge.cons{k:Nat}{o:ak}(h:0 < k)(t:Ge L m):Ge ((m + k,o)::L) m:=λp hp=>(List.mem_cons.mp hp).elim (λe=>e▸kW h) (t p)
theorem rI(h:Ge L m):(bh f s (L++(m,.list xs)::R) n).get (.af m)=some (.list xs):=(show d0 (L++(m,ak.list xs)::R) m=_ by
 induction L with
 | nil=>exact bz
 | cons p L ih=>exact (dG (xt (h p aF))).trans (ih λq hq=>h q (bB _ hq)))
theorem o8(h:Ge L m)(x:aa)(hl:xs.length < LF):cz (.af m) x (bh f s (L++(m,.list xs)::R) n)=some (.none,bh f s (L++(m,.list (xs++[x]))::R) n):=
 (gA (rI h) hl).trans (congrArg (λD=>some (aa.none,bh f s D n)) (show lK (L++(m,ak.list xs)::R) m (.list (xs++[x]))=_ by
  induction L with
  | nil=>exact eE
  | cons p L ih=>exact (jK (xt (h p aF))).trans (congrArg (p::·) (ih λq hq=>h q (bB _ hq)))))
theorem FD(h:Ge L m)(hd:∀p∈R,p.1 < m):yH (.af m) [] (bh f s (L++(m,.list xs)::R) n)=some (.list xs,bh f s (L++R) n):=
 (kQ (rI h)).trans (congrArg (λD=>some (aa.list xs,bh f s D n)) (show d4 (L++(m,ak.list xs)::R) m=_ by
  induction L with
  | nil=>exact lA hd
  | cons p L ih=>exact (dH (xt (h p aF))).trans (congrArg (p::·) (ih λq hq=>h q (bB _ hq)))))
theorem o7(h:Ge L m):some (fF (bh f s (L++(m,.list xs)::R) n) (.af m))=some true:=cJ (rI h)
theorem Nh(h:Ge L m)(hl:xs.length < LF):tw (bh f s (L++(m,.list xs)::R) n) .len (.af m)=some (.int (xs.length:Nat)):=(congrArg (λo=>oL o (λxs=>rP xs (aa.int xs.length)) (ie o (λxs=>rP xs (aa.int xs.length)) none)) (rI (f:=f) (s:=s) (R:=R) (n:=n) h)).trans (gU hl)
noncomputable def RT(i:Nat)(P A N M:List aa)(D:Lo):Lo:=(i + 3,.list M)::(i + 2,.list N)::(i + 1,.list A)::(i,.list P)::D
theorem J4(hd:∀p∈D,p.1 < i)(hi:i + 3 < n):∀p∈RT i P A N M D,p.1 < n:=by
 have c:∀{k} {o:ak} {L:Lo},i + k < n->(∀p∈L,p.1 < n)->∀p∈(i + k,o)::L,p.1 < n:=λh t p hp=>(List.mem_cons.mp hp).elim (λe=>e▸h) (t p)
 have b:∀{k},k<=3->i + k < n:=λh=>bJ (dB h i) hi
 exact c hi (c (b (dJ 2)) (c (b (aJ 1 2)) (c (k:=0) (b (bP _)) λp hp=>cK (hd p hp) (b (k:=0) (bP _)))))
noncomputable def WG(q:Int)(w:Bool)(a3 F:aa)(i:Nat)(z9 z10:aa):Env:=[W,.int q,.bool w,a3,F,.af i,.af (i + 1),.af (i + 2),.af (i + 3),z9,z10,.undef,.undef,.undef,.undef]
noncomputable def LN(f:Fx)(s:Vs)(D:Lo)(n:Nat)(q:Int)(w:Bool)(a3 F:aa)(i:Nat)(P A N M:List aa)(xs:List aa)(z9 z10:aa)(r:aa×Hp):Gl:=fo 6 rG xs (WG q w a3 F i z9 z10) (bh f s (RT i P A N M D) n) r
theorem uX{w sp:Bool}{a3 F:aa}(hd:∀p∈D,p.1 < i)(hi:i + 3 < n)(sm:Sm x)(hs:((A.length:Int) + 1==q / 3 % 3)=sp)(hM:sp=true->M=[])(hP:P.length < LF)(hA:A.length < LF)(hN:N.length < LF)(hR:f.rd.length < LF)
  (t:∀z9 z10,(LN (dF sp f x) s D (B9 sp n x) q w a3 F i (P++[ax (aU f.next x)]) (A++[xi (hZ sp f x,aU f.next x)]) (N++[CX (hZ sp f x,aU f.next x)]) (M++iP (hZ sp f x) (aU f.next x)) xs z9 z10 r).ok (d+4)) (z9 z10:aa):(LN f s D n q w a3 F i P A N M (ax x::xs) z9 z10 r).ok (d+4):=by
 let y:=aU f.next x
 let g:=bn f (dC x)
 let n':=iR n x
 have hi':i + 3 < n':=eG hi (jr n x)
 have h0:=jo (d:=d) (f:=f) (s:=s) (J4 (P:=P) (A:=A) (N:=N) (M:=M) hd hi) sm
 have g2:∀{o:ak},Ge [(i + 3,o)] (i + 2):=.cons (k:=1) (aI rfl) .nil
 have g1:∀{o o':ak},Ge [(i + 3,o),(i + 2,o')] (i + 1):=.cons (k:=2) (aI rfl) (.cons (k:=1) (aI rfl) .nil)
 have g0:∀{o o' o2:ak},Ge [(i + 3,o),(i + 2,o'),(i + 1,o2)] i:=.cons (aI rfl) (.cons (aI rfl) (.cons (aI rfl) .nil))
 let P':=P++[ax y]
 let H:List (Fact (d+4))->List (Fact (d+4)):=λr=>.g h0:: .p 16 (o7 (f:=g) (s:=s) (n:=n') (xs:=P) (R:=D) (g0 (o:=.list M) (o':=.list N) (o2:=.list A))):: .a 17 (o8 (f:=g) (s:=s) (n:=n') (xs:=P) (R:=D) (g0 (o:=.list M) (o':=.list N) (o2:=.list A)) (ax y) hP)::
  .w 4 (Nh (f:=g) (s:=s) (n:=n') (xs:=A) (R:=(i,.list P')::D) (g1 (o:=.list M) (o':=.list N)) hA):: .w 7 (gz (i:=q) (j:=3) (by decide)):: .w 7 (b9 (i:=q / 3) (j:=3) (by decide)):: .d hs::r
 cases sp with
 | false=>
  have t:=t (ax x) (ax y)
  unfold LN at t
  rw [show M++iP (hZ false f x) (aU f.next x)=M from cY M]at t
  exact run (H [.p 16 (o7 (f:=g) (s:=s) (n:=n') (xs:=N) (R:=(i + 1,.list A)::(i,.list P')::D) (g2 (o:=.list M))),.a 17 (o8 (f:=g) (s:=s) (n:=n') (xs:=N) (R:=(i + 1,.list A)::(i,.list P')::D) (g2 (o:=.list M)) (enc y) hN),
   .p 16 (o7 (f:=g) (s:=s) (n:=n') (xs:=A) (R:=(i,.list P')::D) (g1 (o:=.list M) (o':=.list (N++[enc y])))),.a 17 (o8 (f:=g) (s:=s) (n:=n') (xs:=A) (R:=(i,.list P')::D) (g1 (o:=.list M) (o':=.list (N++[enc y]))) (ax y) hA),.l t])
 | true=>
  have t:=t (ax x) (ax y)
  cases hM rfl
  let z:=nd 15 aQ [enc y] 0 (g.next + 1)
  let g':=bn g 1
  let g3:=g'.pL (.tup [z,.list [.none],.bool false])
  have it:∀(f:Fx) (R:Lo),aY (bh f s ((i + 3,.list [z])::R) (n' + 2)) (.af (i + 3)) (.int 0)=some z:=λf R=>(nQ (a:=.af (i + 3)) (h:=bh f s ((i + 3,.list [z])::R) (n' + 2)) (congrArg (λo=>oL o some none) (rI (f:=f) (s:=s) (n:=n' + 2) (L:=[]) (xs:=[z]) (R:=R) .nil)) (by decide)).trans rfl
  exact run (H [.p 16 (o7 (f:=g) (s:=s) (n:=n') (m:=i + 3) (L:=[]) (xs:=[]) (R:=(i + 2,.list N)::(i + 1,.list A)::(i,.list P')::D) .nil),.g (dX (d:=d+2) (f:=g) (s:=s) (n:=n') (D:=RT i P' A N [] D) (k:=15) (a:=aQ) (ks:=[enc y]) (fl:=0) (J4 hd hi') rfl),
   .a 17 (o8 (f:=g') (s:=s) (n:=n' + 2) (m:=i + 3) (L:=[]) (xs:=[]) (R:=(i + 2,.list N)::(i + 1,.list A)::(i,.list P')::D) .nil z (aI rfl)),.s 0 1,.w 0 (it g' ((i + 2,.list N)::(i + 1,.list A)::(i,.list P')::D)),.n hR,
   .p 16 (o7 (f:=g3) (s:=s) (n:=n' + 2) (xs:=N) (R:=(i + 1,.list A)::(i,.list P')::D) (g2 (o:=.list [z]))),.w 0 (it g3 ((i + 2,.list N)::(i + 1,.list A)::(i,.list P')::D)),.a 17 (o8 (f:=g3) (s:=s) (n:=n' + 2) (xs:=N) (R:=(i + 1,.list A)::(i,.list P')::D) (g2 (o:=.list [z])) z hN),
   .p 16 (o7 (f:=g3) (s:=s) (n:=n' + 2) (xs:=A) (R:=(i,.list P')::D) (g1 (o:=.list [z]) (o':=.list (N++[z])))),.a 17 (o8 (f:=g3) (s:=s) (n:=n' + 2) (xs:=A) (R:=(i,.list P')::D) (g1 (o:=.list [z]) (o':=.list (N++[z]))) .none hA),.l t])
end
theorem Ep(L:List E):∀j,j<=Bx L j:=by
 induction L with
 | nil=>exact λj=>aO _
 | cons e L ih=>exact λj=>ai (aJ j 2) (ih _)
theorem yO(e:E):1<=dep e:=by cases e <;> exact ee (bP _)
section
variable{d n i:Nat}{f g:Fx}{s:Vs}{D:Lo}{F p p' e x c:E}{q:Int}{w o:Bool}{k:Ak}{h:Hp}{u:List (Int×aa)}
noncomputable def RQ(q:Int)(w:Bool)(a3:aa)(F:E)(v5 v6 v7 v8 z9 z10 v11 v12 v13 v14:aa):Env:=[W,.int q,.bool w,a3,ax F,v5,v6,v7,v8,z9,z10,v11,v12,v13,v14]
noncomputable abbrev WE:ME:=.ite (.and [(.not (.v 2)),(.cmp .eq (.mod (.fdiv (.v 1) (.c (.int 9))) (.c (.int 4))) (.c (.int 1)))]) (.gc cj (.int 1)) (.c (.int 0))
noncomputable abbrev WD:ME:=.add .f (.ite (.cmp .gt (.v 11) (.c (.int 0))) (.list .f [(.tup [(.item (.v 4) (.c (.str bg))),(.attr (.item (.v 4) (.c (.str au))) bj)])]) (.list .f [])) (.item (.v 4) (.c (.str cw)))
noncomputable abbrev WC:ME:=.or [(.item (.v 4) (.c (.str bS))),(.cmp .gt (.v 11) (.c (.int 0)))]
noncomputable def ID(q:Int)(w:Bool):Bool:= !w&&(q / 9 % 4==1)
theorem TJ{a3 v5 v6 v7 v8 z9 z10:aa}:(ex 14 WE (RQ q w a3 F v5 v6 v7 v8 z9 z10 .undef .undef .undef .undef) h (.int (oi (ID q w)),h)).ok d:=by
 cases w with
 | true=>exact run []
 | false=>
  unfold ID
  cases j:q / 9 % 4==1 <;> exact run [.w 7 (gz (i:=q) (j:=9) (by decide)),.w 7 (b9 (i:=q / 9) (j:=4) (by decide)),.d j]
theorem TH{a3 v5 v6 v7 v8 z9 z10 v12 v13 v14:aa}(hz:Ok u F):(ex 14 WD (RQ q w a3 F v5 v6 v7 v8 z9 z10 (.int (oi o)) v12 v13 v14) h (.list ((Cm o (aS F,bW F) (holds F)).map λx=>.tup [bk x.1,.int (x.2:Nat)]),h)).ok d:=by
 have hl:∀k,k < 5->k + ((holds F).map λx=>aa.tup [bk x.1,.int (x.2:Nat)]).length < LF:=λk hk=>(List.length_map _).symm▸eG (Nat.add_lt_add hk (bJ (oW F) hz.2)) (bY rfl)
 cases o with
 | true=>exact run [.n (hl 1 (aI rfl))]
 | false=>exact run [.n (hl 0 (aI rfl))]
theorem TG{a3 v5 v6 v7 v8 z9 z10 v12 v13 v14:aa}:(ex 14 WC (RQ q w a3 F v5 v6 v7 v8 z9 z10 (.int (oi o)) v12 v13 v14) h (.bool (o ||gB F),h)).ok d:=by
 have r:∀h,aY h (ax F) (.str bS)=some (.bool (gB F)):=λ_=>rfl
 cases i:gB F with
 | true=>rw [i]at r;cases o <;> exact run [.v 0 r]
 | false=>rw [i]at r;cases o <;> exact run [.v 0 r]
noncomputable def KC(X ho op:aa)(dp:Nat)(dl sl:aa):List (Sx×aa):=[(au,X),(c5,.none),(bg,.none),(bK,.int 0),(cw,ho),(dm,DE),(dh,.none),(cP,aQ),(bS,op),(eM,.int (dp:Nat)),(aq,dl),(aG,sl)]
noncomputable abbrev Fp(q:Int)(w:Bool)(g:Fx)(k:Ak)(F p p':E):E:=.call w (ID q w) k F p p' (g.next + 1) (g.next + 2)
theorem uW{L:List E}{a3:aa}(hd:∀p∈D,p.1 < i)(hi:i + 3 < n)(hz:Ok u F)(sm:∀e∈L,Sm e)(hl:L.length<=4)(hp:yy L 1=dep (Fp q w g k F p p'))(hD:(P7 L []++k.iP p p')++[enc (Fp q w g k F p p')]=aE (Fp q w g k F p p'))(hS:P6 L []=(aP (Fp q w g k F p p')).map bq)(hDl:(aE (Fp q w g k F p p')).length < LF)(hC:g.cl.length < LF)(z9 z10:aa):
  (LN g s D n q w a3 (ax F) i (L.map ax) ((k.lst p p').map xi) (k.args p p') (k.iP p p') [] z9 z10 (ax (Fp q w g k F p p'),bh ((bn g 2).vk (nY (Fp q w g k F p p'))) s D (Bx L (n + 5) + 2))).ok (d+4):=by
 let t:=Fp q w g k F p p'
 let o:=ID q w
 let P:=L.map ax
 let A:=(k.lst p p').map xi
 let N:=k.args p p'
 let M:=k.iP p p'
 let v12:=nd 71 aQ N 0 (g.next + 1)
 have hi1:i + 1 < n:=bJ (aJ _ 2) hi
 have hi0:i < n:=bJ (aJ i 3) hi
 have dA:∀p∈(i + 1,ak.list A)::D,p.1 < i + 3:=λp hp=>(List.mem_cons.mp hp).elim (λe=>e▸Nat.add_lt_add_left (aI rfl:1 < 3) i) λhp=>bU 3 (hd p hp)
 have dM:∀{k:Nat},∀p∈(i + 3,ak.list M)::(i + 1,ak.list A)::D,p.1 < n + k:=λp hp=>(List.mem_cons.mp hp).elim (λe=>e▸bU _ hi) λhp=>bU _ (cK (dA p hp) hi)
 have dN:∀{k:Nat},∀p∈(i + 3,ak.list M)::(i + 1,ak.list A)::(i,ak.list P)::D,p.1 < n + k:=λp hp=>(List.mem_cons.mp hp).elim (λe=>e▸bU _ hi) λhp=>(List.mem_cons.mp hp).elim (λe=>e▸bU _ hi1) λhp=>(List.mem_cons.mp hp).elim (λe=>e▸bU _ hi0) λhp=>bU _ (cK (hd p hp) hi0)
 let b:=bh (bn g 2) s ((i + 3,.list M)::(i + 1,.list A)::D) (n + 4)
 let b1:=bh (bn g 2) s ((i + 1,.list A)::D) (n + 4)
 let b2:=bh ((bn g 2).vk (nY t)) s D (n + 4)
 have hb:iN b:=dM
 let j:=Bx L (n + 5)
 have hj:n + 4 < j:=Ep L (n + 5)
 have hj1:n + 4 < j + 1:=Nat.lt_succ_of_lt hj
 let Dl:=P7 L []
 let Ss:=P6 L []
 let Df:=(Dl++M)++[enc t]
 let X:=enc t
 have it:=lg (d:=d+3) (b:=b) (x:=X) rfl hb L sm hl
 unfold qW at it
 rw [hp]at it
 have lDf:(Dl++M).length + 1 < LF:=(List.length_append (as:=Dl++M) (bs:=[enc t]))▸hD.symm▸hDl
 have lDM:Dl.length + M.length < LF:=List.length_append (as:=Dl) (bs:=M)▸Nat.lt_of_succ_lt lDf
 let K:=λho op dl=>KC X ho op (dep t) dl (.af (j + 1))
 have B1:∀{b:Hp},b.n=n + 4->Bh b [(j + 1,.list Ss)]:=λe=>.cs (e▸hj1) .nl
 have eA:ax t= .sd (KC X (kO t) (.bool (gB t)) (dep t) (.list Df) (.list Ss)):=by
  show Ba t .none=_
  unfold Ba
  rw [<-hS,<-hD];rfl
 have fG:∀p∈D,p.1 < i + 1:=λp hp=>Nat.lt_succ_of_lt (hd p hp)
 have st:=λb e K k v hl=>dU (b:=b) (n:=j + 2) (K:=K) (B1 (b:=b) e) hl k v
 have fz:=λho op=>An (b:=b2) (n:=j + 2) (K:=K ho op (.list Df)) (ks:=[aq,aG]) (K':=KC X ho op (dep t) (.list Df) (.list Ss)) (B1 rfl) (λp hp=>cK (hd p hp) (bU 4 hi0)) (bL (h':=⟨b2.G,(j + 1,.list Ss)::b2.D,j + 2⟩) rfl (bL (NL (K:=K ho op (.list Df)) (k:=aG) rfl bz (lA λp hp=>cK (cK (hd p hp) (bU 4 hi0)) hj1)) rfl))
 have dP:∀p∈(i + 1,ak.list A)::(i,ak.list P)::D,p.1 < i + 2:=λp hp=>(List.mem_cons.mp hp).elim (λe=>e▸Nat.add_lt_add_left (aI rfl:1 < 2) i) λhp=>(List.mem_cons.mp hp).elim (λe=>e▸kW (aI rfl:0 < 2)) λhp=>bU 2 (hd p hp)
 let e5:Env:=RQ q w a3 F (.list P) (.af (i + 1)) (.list N) (.af (i + 3)) z9 z10 (.int (oi o)) v12 X (.af (n + 4))
 let H:Int->List (Fact (d+4))->List (Fact (d+4)):=λkd r=>.l (TJ (d:=d+4) (q:=q) (w:=w) (a3:=a3) (F:=F) (v5:=.af i) (v6:=.af (i+1)) (v7:=.af (i+2)) (v8:=.af (i+3)) (z9:=z9) (z10:=z10) (h:=bh g s (RT i P A N M D) n)):: .a 12 (FD (f:=g) (s:=s) (n:=n) (m:=i + 2) (L:=[(i + 3,.list M)]) (xs:=N) (R:=(i + 1,.list A)::(i,.list P)::D) (.cons (k:=1) (aI rfl) .nil) dP)::
  .g (dX (d:=d+2) (f:=g) (s:=s) (n:=n) (D:=(i + 3,.list M)::(i + 1,.list A)::(i,.list P)::D) (k:=71) (a:=aQ) (ks:=N) (fl:=0) (dN (k:=0)) rfl):: .g (dX (d:=d+2) (f:=bn g 1) (s:=s) (n:=n + 2) (D:=(i + 3,.list M)::(i + 1,.list A)::(i,.list P)::D) (k:=kd) (a:=aQ) (ks:=[enc F,v12,.none]) (fl:=oi o) dN rfl)::
  .a 12 (FD (f:=bn g 2) (s:=s) (n:=n + 4) (m:=i) (L:=[(i + 3,.list M),(i + 1,.list A)]) (xs:=P) (R:=D) (.cons (aI rfl) (.cons (aI rfl) .nil)) hd):: .g it::
  .t (jG (C:=aM pg (d+4)) (b:=b) (i:=14) (K:=K (.list []) (.bool false) (.af j)) (k:=aq) (n:=j + 2) (env:=e5) (L:=[(j + 1,.list Ss),(j,.list Dl)]) rfl (.cs hj1 (.cs hj .nl)) (B1 rfl) rfl hj hb ((dG (vY j)).trans bz) ((dH (vY j)).trans (congrArg ((j + 1,ak.list Ss)::·) (cC (r:=[])))))::
  .a 12 (ui (f:=bn g 2) (s:=s) (i:=i + 3) (l:=M) (D:=(i + 1,.list A)::D) (n:=n + 4) (m:=j + 2) (K:=K (.list []) (.bool false) (.list Dl)) (L:=[(j + 1,.list Ss)]) (bt (P:=λp:Nat×ak=>i + 3 < p.1) (x:=(j + 1,.list Ss)) (cK hi (cK (kW (aI rfl:0 < 4)) hj1))) (bU 4 hi) dA)::
  .w 0 (fY (b:=b1) (n:=j + 2) (K:=K (.list []) (.bool false) (.list Dl)) (k:=aq) (v:=.list Dl) (B1 rfl) rfl):: .n lDM:: .n lDf:: .a 15 (st b1 rfl (K (.list []) (.bool false) (.list Dl)) aq (.list Df) (aI rfl))::r
 let T:aa->aa->List (Fact (d+4)):=λho op=>[.a 12 (ui (f:=bn g 2) (s:=s) (i:=i + 1) (l:=A) (D:=D) (n:=n + 4) (m:=j + 2) (K:=K ho op (.list Df)) (L:=[(j + 1,.list Ss)]) (bt (P:=λp:Nat×ak=>i + 1 < p.1) (x:=(j + 1,.list Ss)) (cK hi1 (cK (kW (aI rfl:0 < 4)) hj1))) (bU 4 hi1) fG),
  .s 0 1,.w 0 (fY (b:=bh (bn g 2) s D (n + 4)) (n:=j + 2) (K:=K ho op (.list Df)) (k:=bS) (v:=op) (B1 rfl) rfl),.n hC,.a 12 (fz ho op)]
 show (LN g s D n q w a3 (ax F) i P A N M [] z9 z10 (ax t,bh ((bn g 2).vk (nY t)) s D (j + 2))).ok (d+4)
 rw [eA]
 cases w with
 | true=>exact run (H 19 (T (.list []) (.bool false)))
 | false=>
  exact run (H 18 (.l (TH (d:=d+4) (q:=q) (w:=false) (a3:=a3) (F:=F) (o:=o) (v5:=.list P) (v6:=.af (i+1)) (v7:=.list N) (v8:=.list M) (z9:=z9) (z10:=z10) (v12:=v12) (v13:=X) (v14:=.af (n + 4)) (h:=dx b1 [(j + 1,.list Ss)] (K (.list []) (.bool false) (.list Df)) (j + 2)) hz):: .a 15 (st b1 rfl (K (.list []) (.bool false) (.list Df)) cw (kO t) (aI rfl))::
   .l (TG (d:=d+4) (q:=q) (w:=false) (a3:=a3) (F:=F) (o:=o) (v5:=.list P) (v6:=.af (i+1)) (v7:=.list N) (v8:=.list M) (z9:=z9) (z10:=z10) (v12:=v12) (v13:=X) (v14:=.af (n + 4)) (h:=dx b1 [(j + 1,.list Ss)] (K (kO t) (.bool false) (.list Df)) (j + 2))):: .a 15 (st b1 rfl (K (kO t) (.bool false) (.list Df)) bS (.bool (o ||gB F)) (aI rfl))::T (kO t) (.bool (o ||gB F))))
end
noncomputable def lI(w:Bool)(f:Fx)(c:E):E:=bif w then f6 f.next c else eJ f.next c
noncomputable def eC(w:Bool)(f:Fx)(c:E):Fx:=bif w then dK f c else bn f (gD c)
noncomputable def IC(w:Bool)(f:Fx)(n:Nat)(c:E):Nat:=bif w then ng f n c else pz n c
inductive tF(w:Bool)(f:Fx)(F:E):List E->E->Fx->Prop
 | zero (o:Bool):tF w f F [] (.call w o .zero F rj rj (f.next + 1) (f.next + 2)) (bn f 2)
 | one (o sp:Bool) (a:E):tF w f F [a] (.call w o (.one (hZ sp f a)) F (aU f.next a) rj ((dF sp f a).next + 1) ((dF sp f a).next + 2)) (bn (dF sp f a) 2)
 | two (o sp sq:Bool) (a b:E) (h:(sp&&sq)=false):tF w f F [a,b] (.call w o (.two (hZ sp f a) (hZ sq (dF sp f a) b)) F (aU f.next a) (aU (dF sp f a).next b) ((dF sq (dF sp f a) b).next + 1) ((dF sq (dF sp f a) b).next + 2)) (bn (dF sq (dF sp f a) b) 2)
inductive Vp(d:Nat)(f:Fx)(s:Vs)(D:Lo)(n:Nat)(q:Int)(w:Bool)(xs:List E)(c:E):Prop
 | mk (t:E) (g:Fx) (n':Nat):n<=n'->tF w (eC w f c) (lI w f c) xs t g->(cl F.km [W,.int q,.bool w,.list ((xs++[c]).map ax)] (bh f s D n) (ax t,bh (g.vk (nY t)) s D n')).ok d->Vp d f s D n q w xs c
section
variable{d n i:Nat}{f g:Fx}{s:Vs}{D:Lo}{e x c:E}{q:Int}{w sp:Bool}{u:List (Int×aa)}
theorem xh(sp:Bool)(n:Nat)(x:E):n<=B9 sp n x:=by unfold B9;cases sp <;> first | exact jr n x | exact Nat.le_add_right_of_le (jr n x)
structure Xb(f f':Fx):Prop where
 cl:f'.cl=f.cl
 rd:f'.rd.length<=f.rd.length + 1
theorem vg(sp:Bool)(f:Fx)(x:E):Xb f (dF sp f x):=by
 unfold dF
 cases sp with
 | true=>exact ⟨rfl,Nat.le_of_eq List.length_append⟩
 | false=>exact ⟨rfl,dJ _⟩
theorem J3(w:Bool)(f:Fx)(n:Nat)(c:E):n<=IC w f n c:=by cases w <;> first | exact kN n c | exact fO f n c
theorem MY(h:Sm c):Sm (lI w f c):=by cases w <;> first | exact lu h | exact jt h
theorem call_of(hd:∀p∈D,p.1 < n)(sm:Sm c){xs:List E}{r:aa×Hp}(hx:xs.length<=2)(t:∀z9 z10,(LN (eC w f c) s D (IC w f n c + 4) q w (.list ((xs++[c]).map ax)) (ax (lI w f c)) (IC w f n c) [ax (lI w f c)] [] [] [] (xs.map ax) z9 z10 r).ok (d+4)):(cl F.km [W,.int q,.bool w,.list ((xs++[c]).map ax)] (bh f s D n) r).ok (d+4):=by
 have h0:=pT (d:=d) (f:=f) (s:=s) hd sm
 have h1:=jo (d:=d) (f:=bn f (gD c)) (s:=s) (e:=eJ f.next c) (λp hp=>eG (hd p hp) (kN n c)) (lu sm)
 have t:=t .undef .undef
 have go:∀{L:List E},L=xs->(cl F.km [W,.int q,.bool w,.list ((L++[c]).map ax)] (bh f s D n) r).ok (d+4)->(cl F.km [W,.int q,.bool w,.list ((xs++[c]).map ax)] (bh f s D n) r).ok (d+4):=λe h=>e▸h
 match xs,hx,t with
 | [],_,t=>cases w with
  | true=>exact run [.g h0,.g h1,.l t]
  | false=>exact run [.g h0,.l t]
 | [_],_,t=>cases w with
  | true=>exact run [.g h0,.g h1,.l t]
  | false=>exact run [.g h0,.l t]
 | [_,_],_,t=>cases w with
  | true=>exact run [.g h0,.g h1,.l t]
  | false=>exact run [.g h0,.l t]
theorem IB(hd:∀p∈D,p.1 < n)(hR:f.rd.length < 1000000)(hC:f.cl.length < LF)(q:Int)(w:Bool){xs:List E}(hx:xs.length<=2)(sc:Sm c)(sx:∀x∈xs,Sm x)(hz:Ok u (lI w f c)):Vp (d+4) f s D n q w xs c:=by
 let F:=lI w f c
 let g:=eC w f c
 let i:=IC w f n c
 have hdi:∀p∈D,p.1 < i:=λp hp=>eG (hd p hp) (J3 w f n c)
 have i4:i + 3 < i + 4:=cZ _
 have sF:Sm F:=MY sc
 have hg:g.cl=f.cl/\g.rd=f.rd:=by cases w <;> exact ⟨rfl,rfl⟩
 have hR1:g.rd.length < 1000000:=hg.2.symm▸hR
 have hC1:g.cl.length < LF:=hg.1.symm▸hC
 have up:∀{a b:Nat},i + 4<=a->a<=b->i + 3 < b:=λh k=>eG i4 (ai h k)
 have fin:∀j:Nat,∀L,i + 4<=j->n<=Bx L (j + 5) + 2:=λj L h=>ai (J3 w f n c) (ai (ai (aJ i 4) h) (ai (aJ j 5) (ai (Ep L _) (aJ _ 2))))
 have dl:∀{a b c:Nat},a<=c->b<=1->Nat.blt (c + 2) LF=true->a + b + 1 < LF:=λh1 h2 h=>bJ (gN (eX h1 h2) 1) (aI h)
 have ln:∀{a b:List aa},(a++b).length=a.length + b.length:=List.length_append
 have sl:∀s (e:E),(iP s e).length<=1:=λs e=>by cases s <;> first | exact bP _ | exact aO _
 match xs,hx,sx with
 | [],_,_=>
  let t:=Fp q w g .zero F rj rj
  have hD:(aE F++[])++[enc t]=aE t:=cL ..
  refine ⟨t,bn g 2,Bx [F] (i + 9) + 2,fin (i + 4) [F] (aO _),.zero _,call_of hd sc (bP _) λz9 z10=>?_⟩
  exact uW (L:=[F]) (k:=.zero) (p:=rj) (p':=rj) hdi i4 hz (bt sF) (aI rfl) ((RN _).trans (congrArg (· + 1) (Nat.max_eq_left (yO F)).symm)) hD (congrArg (List.map bq) (cY (aP F)).symm) (by rw [<-hD,ln,cY];exact bJ (ee sF.dn) (aI rfl)) hC1 z9 z10
 | [a],_,sx=>
  have sa:=sx a aF
  let sp:Bool:=(((0:Nat):Int) + 1==q / 3 % 3)
  let A:=aU g.next a
  let g1:=dF sp g a
  have sA:Sm A:=jq sa
  let k:Ak:=.one (hZ sp g a)
  let t:=Fp q w g1 k F A rj
  let n1:=B9 sp (i + 4) a
  have hD:((aE F++aE A)++k.iP A rj)++[enc t]=aE t:=(cL ..).trans (cL ..)
  refine ⟨t,bn g1 2,Bx [F,A] (n1 + 5) + 2,fin n1 _ (xh _ _ _),.one _ sp a,call_of hd sc (aI rfl) (uX hdi i4 sa rfl (λ_=>rfl) (aI rfl) (aI rfl) (aI rfl) (cK hR1 (aI rfl)) λz9 z10=>?_)⟩
  have h:=uW (d:=d) (s:=s) (n:=n1) (a3:=.list (([a]++[c]).map ax)) (g:=g1) (L:=[F,A]) (k:=k) (p:=A) (p':=rj) hdi (up (aO _) (xh sp (i + 4) a)) hz (λe he=>(List.mem_cons.mp he).elim (λh=>h▸sF) (bt sA e)) (aI rfl) ((RM _ _).trans (congrArg (max (dep F) · + 1) (Nat.max_eq_left (yO A)).symm)) hD ((List.map_append (f:=bq)).symm) (by rw [<-hD,ln,ln,ln];exact dl (eX sF.dn sA.dn) (sl _ _) rfl) ((vg sp g a).cl.symm▸hC1) z9 z10
  rw [args_eq]at h
  exact h
 | [a,b],_,sx=>
  have sa:=sx a aF
  have sb:=sx b (bB _ aF)
  let sp:Bool:=(((0:Nat):Int) + 1==q / 3 % 3)
  let sq:Bool:=(((1:Nat):Int) + 1==q / 3 % 3)
  have hq:(sp&&sq)=false:=by
   have:∀z:Int,((((0:Nat):Int) + 1==z)&&(((1:Nat):Int) + 1==z))=false:=λz=>by
    cases h:(((0:Nat):Int) + 1==z)with
    | false=>rfl
    | true=>cases eq_of_beq h;rfl
   exact this _
  let A:=aU g.next a
  let g1:=dF sp g a
  let B:=aU g1.next b
  let g2:=dF sq g1 b
  have sA:Sm A:=jq sa
  have sB:Sm B:=jq sb
  let k:Ak:=.two (hZ sp g a) (hZ sq g1 b)
  let t:=Fp q w g2 k F A B
  let n1:=B9 sp (i + 4) a
  let n2:=B9 sq n1 b
  have hn1:i + 3 < n1:=up (aO _) (xh sp (i + 4) a)
  have hn2:i + 4<=n2:=ai (xh sp (i + 4) a) (xh sq n1 b)
  have hD:(((aE F++aE A)++aE B)++k.iP A B)++[enc t]=aE t:=(cL ..).trans ((congrArg (·++(k.iP A B++[enc t])) (cL (aE F) (aE A) (aE B))).trans (cL ..))
  have e1:=vg sp g a
  have hS:(iP (hZ sp g a) A++iP (hZ sq g1 b) B).length<=2:=ln (a:=iP (hZ sp g a) A)▸eX (sl _ _) (sl _ _)
  have hM:sq=true->iP (hZ sp g a) A=[]:=λh=>by
   have h0:sp=false:=by rw [h,Bool.and_true]at hq;exact hq
   rw [h0];rfl
  have h:∀z9 z10,(LN g2 s D n2 q w (.list (([a,b]++[c]).map ax)) (ax F) i ([F,A,B].map ax) ((k.lst A B).map xi) (k.args A B) (k.iP A B) [] z9 z10 (ax t,bh ((bn g2 2).vk (nY t)) s D (Bx [F,A,B] (n2 + 5) + 2))).ok (d+4):=λz9 z10=>by
   refine uW (g:=g2) (L:=[F,A,B]) (k:=k) (p:=A) (p':=B) hdi hn2 hz (λe he=>(List.mem_cons.mp he).elim (λh=>h▸sF) λhe=>(List.mem_cons.mp he).elim (λh=>h▸sA) (bt sB e)) (aI rfl) ?_ hD ?_ ?_ ((vg sq g1 b).cl.symm▸e1.cl.symm▸hC1) z9 z10
   ·show max (max (max 1 (dep F + 1)) (dep A + 1)) (dep B + 1)=max (dep F) (max (dep A) (dep B)) + 1
    rw [RM,Nat.succ_max_succ,Nat.max_assoc]
   ·show ((aP F).map bq++(aP A).map bq)++(aP B).map bq=(aP F++(aP A++aP B)).map bq
    rw [List.map_append,List.map_append,cL]
   ·rw [<-hD,ln,ln,ln,ln]
    exact bJ (gN (eX (eX (eX sF.dn sA.dn) sB.dn) hS) 1) (aI rfl)
  rw [args_eq]at h
  refine ⟨t,bn g2 2,Bx [F,A,B] (n2 + 5) + 2,fin n2 _ hn2,.two _ sp sq a b hq,call_of hd sc (aO 2) (uX (sp:=sp) hdi i4 sa rfl (λ_=>rfl) (aI rfl) (aI rfl) (aI rfl) (cK hR1 (aI rfl)) (uX (sp:=sq) hdi hn1 sb rfl hM (aI rfl) (aI rfl) (aI rfl) (bJ e1.rd (cK (Nat.succ_lt_succ hR1) (aI rfl))) h))⟩
end
inductive Made(f:Fx):List E->E->Fx->Prop
 | mem {e t:E} {f':Fx} {r:Rr} (h:zl (bn f (gD e)) (eJ f.next e) t f') (ho:Rr.ok r=true):Made f [e] t (f'.pL (mq r))
 | call {w:Bool} {xs:List E} {c t:E} {g:Fx} (h:tF w (eC w f c) (lI w f c) xs t g):Made f (xs++[c]) t (g.vk (nY t))
 | asg {k:Pk} {g:Fx} {e0 e1:E} (h:NH (bn (sy f e0) (dC e1)) (tO f e0) k g):Made f [e0,e1] (.asg k (tO f e0) (aU (sy f e0).next e1) (g.next + 1)) (IK g (.asg k (tO f e0) (aU (sy f e0).next e1) (g.next + 1)))
 | upd (b:Bool) {e:E}:Made f [e] (.upd b (tO f e) ((sy f e).next + 1)) ((bn (sy f e) 1).addW (bq (.upd b (tO f e) ((sy f e).next + 1))))
 | un {e t:E} {f':Fx} (h:Rf (dK f e) (f6 f.next e) t f'):Made f [e] t f'
 | paren {e:E}:Made f [e] (.wr .paren (aU f.next e) (f.next + dC e + 1)) (bn (bn f (dC e)) 1)
 | eh {e:E}:Made f [e] (.wr .eh (eJ f.next e) (f.next + gD e + 1)) (bn (bn f (gD e)) 1)
 | within {e t:E} {f':Fx} (h:Rb (bn f (dC e)) (aU f.next e) t f'):Made f [e] t f'
 | bin (g:Bs) {a b:E}:Made f [a,b] (.bin g (f6 f.next a) (f6 (dK f a).next b) ((dK (dK f a) b).next + 1)) (bn (dK (dK f a) b) 1)
 | pick {a b c:E}:Made f [a,b,c] (.pick (f6 f.next a) (f6 (dK f a).next b) (f6 (dK (dK f a) b).next c) ((dK (dK (dK f a) b) c).next + 1)) (bn (dK (dK (dK f a) b) c) 1)
inductive Gf(d:Nat)(f:Fx)(s:Vs)(D:Lo)(n:Nat)(op q:Int)(B:List E):Prop
 | mk (t:E) (f':Fx) (n':Nat):n<=n'->Made f B t f'->(cl F.qI [W,.int op,.int q,.list (B.map ax)] (bh f s D n) (ax t,bh f' s D n')).ok d->Gf d f s D n op q B
section
variable{d n:Nat}{f:Fx}{s:Vs}{D:Lo}{e:E}{q:Int}
theorem Ki(hd:∀p∈D,p.1 < n)(hu:f.u.length < LF)(hW:f.wr.length < LF)(q:Int)(sm:Sm e):Gf (d+6) f s D n 7 q [e]:=by
 have c1:=sC (d:=d+2) (f:=f) (s:=s) hd hu e
 let t:=tO f e
 let f1:=sy f e
 let n1:=I1 n e
 have htg:eN t=true:=tN f e
 have st:Sm t:=CK sm
 have fG:∀p∈D,p.1 < n1:=λp hp=>eG (hd p hp) (Gu n e)
 obtain ⟨b,hb⟩:=eL (P:=λj=>∃b:Bool,∀h,aY h (.tup [.str g7,.str g6]) (.int j)=some (.str (bif b then g6 else g7))) 2 (aI rfl) (dZ (dZ yi ⟨false,λ_=>rfl⟩) ⟨true,λ_=>rfl⟩) q
 let A:=E.upd b t (f1.next + 1)
 have hj:n1 + 2 < n1 + 5:=bU 2 (cZ _)
 let K:=K0 (enc A) (dep t + 1) (n1 + 5)
 let Ss:=(aP t).map bq
 have eA:ax A=uR K (aE t++[enc A]) (Ss++[bq A]):=by rw [qz];rfl
 refine ⟨A,(bn f1 1).addW (bq A),n1 + 7,ai (Gu n e) (aJ _ 7),.upd b,?_⟩
 rw [eA]
 exact run [.g c1,.w 7 (b9 (i:=q) (j:=2) (by decide)),.v 0 hb,.g (dX (d:=d+4) (f:=f1) (s:=s) (n:=n1) (D:=D) (k:=22) (a:=.str (bif b then g6 else g7)) (ks:=[enc t]) (fl:=0) fG rfl),.g (Qd (d:=d+5) (b:=bh (bn f1 1) s D (n1 + 2)) (x:=enc A) rfl (l9 fG) st),
  .g (mj (d:=d+5) (e:=t) (di (bh (bn f1 1) s D (n1 + 2)) (n1 + 5) K (aE t) Ss) htg),.g (Dg (d:=d+5) (f:=bn f1 1) (s:=s) (D:=D) (n:=n1 + 2) (j:=n1 + 5) (K:=K) (Dd:=aE t) (Ss:=Ss) (x:=enc A) (y:=.list [cb t]) hj rfl rfl rfl rfl (bJ st.dn (aI rfl)) ((List.length_map bq).symm▸bJ st.st (aI rfl)) ((CJ f e).wr.symm▸hW)),
  .a 12 (jH (b:=bh ((bn f1 1).addW (bq A)) s D (n1 + 2)) (j:=n1 + 5) (K:=K) (Dd:=aE t++[enc A]) (Ss:=Ss++[bq A]) hj (l9 fG) rfl rfl)]
theorem DC(hd:∀p∈D,p.1 < n)(q:Int)(sm:Sm e):Gf (d+6) f s D n 12 q [e]:=by
 have c1:=jo (d:=d+2) (f:=f) (s:=s) hd sm
 let k:=aU f.next e
 let f1:=bn f (dC e)
 let n1:=iR n e
 have fG:∀p∈D,p.1 < n1:=λp hp=>eG (hd p hp) (jr n e)
 have o:gB k=false:=by show gB (aU f.next e)=false;unfold aU;cases q:gB e <;> first | exact q | rfl
 have eA:ax (.wr .paren k (f1.next + 1))=uR (KW .paren k (f1.next + 1) (n1 + 5)) (aE k) ((aP k).map bq):=by
  show Ba (.wr .paren k (f1.next + 1)) (yc k)=_
  unfold Ba
  rw [show gB (.wr .paren k (f1.next + 1))=false from o];rfl
 refine ⟨.wr .paren k (f1.next + 1),bn f1 1,n1 + 7,ai (jr n e) (aJ _ 7),.paren,?_⟩
 rw [eA]
 exact run [.g c1,.g (pO (d:=d+3) (f:=f1) (s:=s) fG (jq sm:Sm k) (k:=.paren)),.a 12 (wF .paren k f1 s D n1 fG)]
theorem yf(hd:∀p∈D,p.1 < n)(q:Int)(sm:Sm e):Gf (d+6) f s D n 13 q [e]:=by
 have c1:=pT (d:=d+2) (f:=f) (s:=s) hd sm
 let k:=eJ f.next e
 let f1:=bn f (gD e)
 let n1:=pz n e
 have fG:∀p∈D,p.1 < n1:=λp hp=>eG (hd p hp) (kN n e)
 have hj:n1 + 2 < n1 + 5:=bU 2 (cZ _)
 let b:=bh (bn f1 1) s D (n1 + 2)
 let K:=KW .eh k (f1.next + 1) (n1 + 5)
 refine ⟨.wr .eh k (f1.next + 1),bn f1 1,n1 + 7,ai (kN n e) (aJ _ 7),.eh,?_⟩
 exact run [.g c1,.g (pO (d:=d+3) (f:=f1) (s:=s) fG (lu sm:Sm k) (k:=.eh)),.a 15 (ro (b:=b) (j:=n1 + 5) (K:=K) (Dd:=aE k) (Ss:=(aP k).map bq) hj (aI rfl) bS (.bool (gB k))),
  .a 12 (jH (b:=b) (j:=n1 + 5) (K:=sset K bS (.bool (gB k))) (Dd:=aE k) (Ss:=(aP k).map bq) hj (l9 fG) rfl rfl)]
end
section
variable{d n:Nat}{f:Fx}{s:Vs}{D:Lo}{a b c:E}{q:Int}{x:aa}
theorem We{b:Hp}{p q r:E}(hx:gj x=true)(hd:iN b)(sp:Sm p)(sq:Sm q)(sr:Sm r):(cl F.b0 [x,.list [ax p,ax q,ax r]] b (.af b.n,di b (b.n + 7) (K0 x (max (dep p) (max (dep q) (dep r)) + 1) (b.n + 7)) ((aE p++aE q)++aE r) (((aP p).map bq++(aP q).map bq)++(aP r).map bq))).ok d:=by
 have h:=lg (d:=d) hx hd [p,q,r] (λe he=>(List.mem_cons.mp he).elim (λh=>h▸sp) λhe=>(List.mem_cons.mp he).elim (λh=>h▸sq) (bt sr e)) (bY rfl)
 unfold qW yy yy yy yy at h
 rw [RM,Nat.succ_max_succ,Nat.max_assoc]at h
 exact h
noncomputable abbrev Uj:aa:=.tup [.str g5,.str yt]
noncomputable abbrev Ui:aa:=.tup [.str jB,.str fb,.str gZ]
theorem U6(q:Int):∃g:Bs,(g= .eq\/g= .plus)/\∀h,aY h Uj (.int (q % 2))=some (.str g.s):=
 eL (P:=λj=>∃g:Bs,(g= .eq\/g= .plus)/\∀h,aY h Uj (.int j)=some (.str g.s)) 2 (aI rfl) (dZ (dZ yi ⟨.eq,.inl rfl,λ_=>rfl⟩) ⟨.plus,.inr rfl,λ_=>rfl⟩) q
theorem U5(q:Int):∃g:Bs,(g= .and\/g= .or\/g= .nul)/\∀h,aY h Ui (.int (q % 3))=some (.str g.s):=
 eL (P:=λj=>∃g:Bs,(g= .and\/g= .or\/g= .nul)/\∀h,aY h Ui (.int j)=some (.str g.s)) 3 (aI rfl) (dZ (dZ (dZ yi ⟨.and,.inl rfl,λ_=>rfl⟩) ⟨.or,.inr (.inl rfl),λ_=>rfl⟩) ⟨.nul,.inr (.inr rfl),λ_=>rfl⟩) q
noncomputable def KS(x:aa)(sp dp j:Nat):List (Sx×aa):=KI x .none .none (.int sp) (.list []) DE .none aQ (.bool false) dp j
theorem M9(hd:∀p∈D,p.1 < n)(q:Int)(sa:Sm a)(sb:Sm b):Gf (d+6) f s D n 9 q [a,b]/\Gf (d+6) f s D n 10 q [a,b]:=by
 obtain ⟨g2,o2,h2⟩:=U6 q
 obtain ⟨g3,o3,h3⟩:=U5 q
 have c1:=kY (d:=d+1) (f:=f) (s:=s) hd sa
 let f1:=dK f a
 let n1:=ng f n a
 have fG:∀p∈D,p.1 < n1:=λp hp=>eG (hd p hp) (fO f n a)
 have c2:=kY (d:=d+1) (f:=f1) (s:=s) fG sb
 let f2:=dK f1 b
 let n2:=ng f1 n1 b
 have hd2:∀p∈D,p.1 < n2:=λp hp=>eG (fG p hp) (fO f1 n1 b)
 let A:=f6 f.next a
 let B:=f6 f1.next b
 have sA:Sm A:=jt sa
 have sB:Sm B:=jt sb
 let X:=λg=>E.bin g A B (f2.next + 1)
 let bb:=bh (bn f2 1) s D (n2 + 2)
 let Ss:=(aP A).map bq++(aP B).map bq
 let dp:=max (dep A) (dep B) + 1
 have hj:n2 + 2 < n2 + 7:=bU 4 (cZ _)
 have eA:∀g,ax (X g)=uR (KS (enc (X g)) (gR (X g)) dp (n2 + 7)) (aE A++aE B) Ss:=λg=>by
  show Ba (X g) .none=_
  unfold Ba
  rw [show aP (X g)=aP A++aP B from rfl,List.map_append];rfl
 let T:Bs->List (Fact (d+6)):=λg=>[.g c1,.g c2,.w 7 (b9 (i:=q) (j:=2) (by decide)),.v 0 h2,.w 7 (b9 (i:=q) (j:=3) (by decide)),.v 0 h3,
  .g (dX (d:=d+4) (f:=f2) (s:=s) (n:=n2) (D:=D) (k:=g.k) (a:=.str g.s) (ks:=[enc A,enc B]) (fl:=0) hd2 rfl),.g (UR (d:=d+5) (b:=bb) (x:=enc (X g)) rfl (l9 hd2) sA sB),
  .a 15 (ro (b:=bb) (j:=n2 + 7) (K:=KS (enc (X g)) 0 dp (n2 + 7)) (Dd:=aE A++aE B) (Ss:=Ss) hj (aI rfl) bK (.int (gR (X g):Nat))),
  .a 12 (jH (b:=bb) (j:=n2 + 7) (K:=KS (enc (X g)) (gR (X g)) dp (n2 + 7)) (Dd:=aE A++aE B) (Ss:=Ss) hj (l9 hd2) rfl rfl)]
 have hn:n<=n2 + 9:=ai (fO f n a) (ai (fO f1 n1 b) (aJ _ 9))
 have go:∀g op,(cl F.qI [W,.int op,.int q,.list [ax a,ax b]] (bh f s D n) (uR (KS (enc (X g)) (gR (X g)) dp (n2 + 7)) (aE A++aE B) Ss,bh (bn f2 1) s D (n2 + 9))).ok (d+6)->Gf (d+6) f s D n op q [a,b]:=λg op h=>⟨X g,bn f2 1,n2 + 9,hn,.bin g,eA g▸h⟩
 constructor
 ·rcases o2 with rfl | rfl
  ·exact go .eq 9 (run (T .eq))
  ·exact go .plus 9 (run (T .plus))
 ·rcases o3 with rfl | rfl | rfl
  ·exact go .and 10 (run (T .and))
  ·exact go .or 10 (run (T .or))
  ·exact go .nul 10 (run (T .nul))
theorem G0(hd:∀p∈D,p.1 < n)(q:Int)(sa:Sm a)(sb:Sm b)(sc:Sm c):Gf (d+6) f s D n 11 q [a,b,c]:=by
 obtain ⟨g2,o2,h2⟩:=U6 q
 obtain ⟨g3,o3,h3⟩:=U5 q
 have c1:=kY (d:=d+1) (f:=f) (s:=s) hd sa
 let f1:=dK f a
 let n1:=ng f n a
 have fG:∀p∈D,p.1 < n1:=λp hp=>eG (hd p hp) (fO f n a)
 have c2:=kY (d:=d+1) (f:=f1) (s:=s) fG sb
 let f2:=dK f1 b
 let n2:=ng f1 n1 b
 have hd2:∀p∈D,p.1 < n2:=λp hp=>eG (fG p hp) (fO f1 n1 b)
 have c3:=kY (d:=d+1) (f:=f2) (s:=s) hd2 sc
 let f3:=dK f2 c
 let n3:=ng f2 n2 c
 have hd3:∀p∈D,p.1 < n3:=λp hp=>eG (hd2 p hp) (fO f2 n2 c)
 let A:=f6 f.next a
 let B:=f6 f1.next b
 let C:=f6 f2.next c
 let X:=E.pick A B C (f3.next + 1)
 let bb:=bh (bn f3 1) s D (n3 + 2)
 let Dd:=(aE A++aE B)++aE C
 let Ss:=((aP A).map bq++(aP B).map bq)++(aP C).map bq
 let K:=KS (enc X) 0 (dep X) (n3 + 9)
 have hj:n3 + 2 < n3 + 9:=bU 6 (cZ _)
 have eA:ax X=uR K Dd Ss:=by
  show Ba X .none=_
  unfold Ba
  rw [show aP X=aP A++(aP B++aP C)from rfl,show aE X=aE A++(aE B++aE C)from rfl,List.map_append,List.map_append,<-cL,<-cL];rfl
 refine ⟨X,bn f3 1,n3 + 11,ai (fO f n a) (ai (fO f1 n1 b) (ai (fO f2 n2 c) (aJ _ 11))),.pick,?_⟩
 rw [eA]
 exact run [.g c1,.g c2,.g c3,.w 7 (b9 (i:=q) (j:=2) (by decide)),.v 0 h2,.w 7 (b9 (i:=q) (j:=3) (by decide)),.v 0 h3,
  .g (dX (d:=d+4) (f:=f3) (s:=s) (n:=n3) (D:=D) (k:=26) (a:=aQ) (ks:=[enc A,enc B,enc C]) (fl:=0) hd3 rfl),.g (We (d:=d+5) (b:=bb) (x:=enc X) (p:=A) (q:=B) (r:=C) rfl (l9 hd3) (jt sa) (jt sb) (jt sc)),
  .a 15 (ro (b:=bb) (j:=n3 + 9) (K:=K) (Dd:=Dd) (Ss:=Ss) hj (aI rfl) bK (.int 0)),
  .a 12 (jH (b:=bb) (j:=n3 + 9) (K:=K) (Dd:=Dd) (Ss:=Ss) hj (l9 hd3) rfl rfl)]
end
theorem ts{n k:Nat}(hk:0 < k):fK n (-(k:Int))=n - k:=
 (if_pos (Int.neg_neg_of_pos (Int.ofNat_lt.mpr hk))).trans (by rw [Int.neg_neg];rfl)
theorem xR{h:Hp}{xs:List aa}{k:Nat}(hk:0 < k)(hl:xs.length < LF):eK h (.list xs) (.int (-(k:Int))) .none=some (.list (xs.drop (xs.length - k))):=
 (gU hl).trans (congrArg (λl=>some (aa.list l)) (by
  show (xs.drop (fK xs.length (-(k:Int)))).take (xs.length - fK xs.length (-(k:Int)))=_
  rw [ts hk,List.take_of_length_le (Nat.le_of_eq List.length_drop)]))
theorem AS{h:Hp}{xs:List aa}{k:Nat}(hk:0 < k)(hl:xs.length < LF):eK h (.list xs) .none (.int (-(k:Int)))=some (.list (xs.take (xs.length - k))):=
 (gU hl).trans (congrArg (λl=>some (aa.list l)) (by
  show (xs.drop 0).take (fK xs.length (-(k:Int)) - 0)=_
  rw [ts hk];rfl))
theorem ints_map{α:Type}(g:α->Nat)(l:List α):intsOf (l.map λe=>.int (g e:Nat))=some (l.map λe=>((g e:Nat):Int)):=by
 induction l with
 | nil=>rfl
 | cons e l ih=>exact congrArg (λo=>oS o (λys=>some ((g e:Int)::ys)) none) ih
theorem LD(l:List Int):∀a,a<=oJ a l/\∀x∈l,x<=oJ a l:=by
 induction l with
 | nil=>exact λa=>⟨Int.le_refl a,nofun⟩
 | cons y l ih=>
  intro a
  unfold oJ
  have i:=ih (if a < y then y else a)
  have h:a<=(if a < y then y else a)/\y<=(if a < y then y else a):=by
   by_cases h:a < y
   ·rw [if_pos h];exact ⟨Int.le_of_lt h,Int.le_refl y⟩
   ·rw [if_neg h];exact ⟨Int.le_refl a,Int.not_lt.mp h⟩
  exact ⟨Int.le_trans h.1 i.1,λx hx=>(List.mem_cons.mp hx).elim (λe=>by rw [e];exact Int.le_trans h.2 i.1) (i.2 x)⟩
noncomputable abbrev stC:ME:=.or [(.cmp .lt (.v 2) (.c (.int 2))),(.cmp .lt (.b1 .len (.v 6)) (.v 5)),(.cmp .gt (.b1 .max (.comp .f (.v 7) (.v 6) none (.item (.v 7) (.c (.str eM))))) (.c (.int 6)))]
noncomputable def OA(q:Int)(m:Nat)(arg:Int)(S:List E)(k:Nat)(B:List E):Env:=[W,.int q,.int m,.int arg,.list (S.map ax),.int (k:Nat),.list (B.map ax),.undef]
inductive Uc(d:Nat)(q:Int)(m:Nat)(arg:Int)(S:List E)(k:Nat)(B:List E)(h:Hp):Prop
 | yes:(ex 13 stC (OA q m arg S k B) h (.bool true,h)).ok d->Uc d q m arg S k B h
 | no:(ex 13 stC (OA q m arg S k B) h (.bool false,h)).ok d->2<=m->k<=B.length->(∀e∈B,dep e<=6)->Uc d q m arg S k B h
theorem Iy{d:Nat}{q:Int}{m:Nat}{arg:Int}{S B:List E}{k:Nat}{h:Hp}(hk:0 < k)(hB:B.length<=4):Uc d q m arg S k B h:=by
 have l:(B.map ax).length < LF:=d8 (nA hB rfl)
 have ln:∀h,tw h .len (.list (B.map ax))=some (.int (B.map ax).length):=len_list l
 by_cases h1:(m:Int) < 2
 ·exact .yes (run [.d (decide_eq_true h1)])
 have h1':=decide_eq_false h1
 by_cases h2:((B.map ax).length:Int) < k
 ·exact .yes (run [.d h1',.v 4 ln,.d (decide_eq_true h2)])
 have h2':=decide_eq_false h2
 have hl:k<=B.length:=Nat.le_of_not_lt λq=>h2 (Int.ofNat_lt.mpr ((List.length_map ax).symm▸q))
 match B,l,ln,h2',hl with
 | [],_,_,_,hl=>exact absurd hl (Nat.not_le_of_lt hk)
 | e::r,l,ln,h2',hl=>
  let x:Int:=oJ (dep e) (r.map λe=>((dep e:Nat):Int))
  have mx:∀h,tw h .max (.list ((e::r).map λe=>.int (dep e:Nat)))=some (.int x):=λh=>by show oS (intsOf _) _ none=_;rw [ints_map];rfl
  have cm:=comp_map h (f:=ov (aM pg d) (.v 7) none (.item (.v 7) (.c (.str eM))) (OA q m arg S k (e::r))) (g:=λe=>.int (dep e:Nat)) (en:=ax) (e::r) λy _=>jf (env':=(OA q m arg S k (e::r)).set 7 (ax y)) rfl (run (d:=d) (G:=ex 0 (.item (.v 7) (.c (.str eM))) ((OA q m arg S k (e::r)).set 7 (ax y)) h (.int (dep y:Nat),h)) [])
  cases h3:decide (x > 6)with
  | true=>exact .yes (run [.d h1',.v 4 ln,.d h2',.n l,.m cm,.v 4 mx,.d h3])
  | false=>
   have m6:x<=6:=Int.not_lt.mp (of_decide_eq_false h3)
   have g:=LD (r.map λe=>((dep e:Nat):Int)) (dep e)
   exact .no (run [.d h1',.v 4 ln,.d h2',.n l,.m cm,.v 4 mx,.d h3]) (Int.ofNat_le.mp (Int.not_lt.mp h1)) hl λy hy=>Int.ofNat_le.mp (Int.le_trans ((List.mem_cons.mp hy).elim (λe=>e▸g.1) λhy=>g.2 _ (List.mem_map_of_mem hy)) m6)
noncomputable def Fx.st(f:Fx)(S:List E):Fx:={f with stack:=.list (S.map ax)}
inductive NX(f:Fx)(S:List E):Fx->List E->Prop
 | push {t:E} {f1:Fx} {A S':List E} (h:Cf f t f1) (e:S++[t]=A++S') (l:S'.length<=4) (n:S'≠[]):NX f S f1 S'
 | join {A B:List E} {t:E} {f1:Fx} (e:S=A++B) (hB:∀e∈B,dep e<=6) (n:0 < B.length) (h:Made f B t f1):NX f S f1 (A++[t])
inductive R2(d:Nat)(f:Fx)(s:Vs)(D:Lo)(n:Nat)(S:List E)(q:Int):Prop
 | mk (f1:Fx) (S':List E) (n':Nat):n<=n'->NX (f.st S) S f1 S'->(cl F.qE [W,.int q] (bh (f.st S) s D n) (.none,bh (f1.st S') s D n')).ok d->R2 d f s D n S q
structure Tn(u:List (Int×aa))(e:E):Prop where
 u:UO u e
 sm:Sm e
 sz:sz e < 99000
structure Tf(f:Fx):Prop where
 u:f.u.length < 1000000
 wr:f.wr.length < 1000000
 rd:f.rd.length < 1000000
 cl:f.cl.length < 1000000
 own:f.own.length < 1000000
inductive L4(S:List E)(t:E):Prop
 | mk (A S':List E):S++[t]=A++S'->S'.length<=4->S'≠[]->(∀h,eK h (.list (S.map ax++[ax t])) (.int (-4)) .none=some (.list (S'.map ax)))->L4 S t
section
variable{d n m k j3 j2:Nat}{f:Fx}{s:Vs}{D:Lo}{e t:E}{q:Int}{S:List E}
theorem Js(hS:S.length<=4)(t:E):L4 S t:=
 match S,hS with
 | [],_=>⟨[],[t],rfl,aI rfl,nofun,λ_=>rfl⟩
 | [a],_=>⟨[],[a,t],rfl,aI rfl,nofun,λ_=>rfl⟩
 | [a,b],_=>⟨[],[a,b,t],rfl,aI rfl,nofun,λ_=>rfl⟩
 | [a,b,c],_=>⟨[],[a,b,c,t],rfl,aO 4,nofun,λ_=>rfl⟩
 | [a,b,c,e],_=>⟨[a],[b,c,e,t],rfl,aO 4,nofun,λ_=>rfl⟩
theorem CQ(hd:∀p∈D,p.1 < n)(hu:f.u.length < 1000000)(hS:S.length<=4)(hk:0 < k)(m16:arith eZ (.int q) (.int 16)=some (.int m))(m3:arith eZ (.int (q / 16)) (.int 3)=some (.int j3))(m2:arith eZ (.int (q / 16)) (.int 2)=some (.int j2))
  (hg:∀h,yF h (.eg [(4,.int (1 + (j3:Int))),(15,.int (1 + (j2:Int))),(5,.int 2),(6,.int 2),(9,.int 2),(10,.int 2),(11,.int 3)]) (.int m) (.int 1)=some (.int (k:Nat))) (J:∀B:List E,B.length=k->(∀e∈B,e∈S)->2<=m->Gf (d+6) (f.st S) s D n m (q / 16) B):R2 (d+7) f s D n S q:=by
 let B:=S.drop (S.length - k)
 let A:=S.take (S.length - k)
 have lB:B.length=S.length - (S.length - k):=List.length_drop
 have ls:(S.map ax).length < LF:=d8 (nA hS rfl)
 have sl:∀h,eK h (.list (S.map ax)) (.int (-(k:Int))) .none=some (.list (B.map ax)):=λh=>by
  rw [xR hk ls,List.length_map,<-List.map_drop]
 have n1:(S.map ax).length + 1 < LF:=nA (ee ((List.length_map ax).symm▸hS)) rfl
 let P:List (Fact (d+7))->List (Fact (d+7)):=λr=>.w 7 m16:: .w 7 (gz (i:=q) (j:=16) (by decide)):: .w 7 m3:: .w 7 m2:: .v 3 hg:: .v 5 sl::r
 rcases Iy (d:=d+7) (q:=q) (m:=m) (arg:=q / 16) (S:=S) (B:=B) (k:=k) (h:=bh (f.st S) s D n) hk (lB▸ai (Nat.sub_le _ _) hS)with c | ⟨c,h2,hl,h6⟩
 ·cases h0:((m:Int)==0)with
  | true=>
   obtain ⟨A,S',e1,e2,e3,e4⟩:=Js hS (.nm .x ((f.st S).next + 1))
   exact ⟨_,S',n + 5,aJ _ 5,.push (.nm .x) e1 e2 e3,run (P [.l c,.d h0,.g (nz (d:=d+4) (f:=f.st S) (s:=s) hd (cK hu (aI rfl)) .x),.n n1,.v 5 e4])⟩
  | false=>
   obtain ⟨t,f1,lf,e⟩:=Hq (d:=d+3) (f:=f.st S) (s:=s) hd (cK hu (aI rfl)) (q / 16)
   obtain ⟨A,S',e1,e2,e3,e4⟩:=Js hS t
   exact ⟨f1,S',n + 5,aJ _ 5,.push lf e1 e2 e3,run (P [.l c,.d h0,.g e,.n n1,.v 5 e4])⟩
 ·have hkS:k<=S.length:=ai hl (lB▸Nat.sub_le _ _)
  obtain ⟨t,f',n',hn',hm,e⟩:=J B (lB.trans (Nat.sub_sub_self hkS)) (λe he=>List.mem_of_mem_drop he) h2
  have sb:∀h,eK h (.list (S.map ax)) .none (.int (-(k:Int)))=some (.list (A.map ax)):=λh=>by
   rw [AS hk ls,List.length_map,<-List.map_take]
  have n2:(A.map ax).length + 1 < LF:=bJ (ee (by rw [List.length_map,List.length_map];exact List.length_take_le' _ _)) n1
  have r:(cl F.qE [W,.int q] (bh (f.st S) s D n) (.none,bh {f' with stack:=.list (A.map ax++[ax t])} s D n')).ok (d+7):=run (P [.l c,.v 5 sb,.g e,.n n2])
  refine ⟨f',A++[t],n',hn',.join (List.take_append_drop _ _).symm h6 (eG hk hl) hm,?_⟩
  unfold Fx.st
  rw [List.map_append]
  exact r
theorem DU(q:Int)(k:Nat)(hk:0 < (k:Int)/\(k:Int) < 1073741824):∃j:Nat,j < k/\arith eZ (.int q) (.int k)=some (.int j):=
 eL (P:=λz=>arith eZ (.int q) (.int k)=some (.int z)->∃j:Nat,j < k/\arith eZ (.int q) (.int k)=some (.int j)) k (Int.ofNat_lt.mp hk.1) (λm hm e=>⟨m,hm,e⟩) q (b9 hk)
theorem AD{u:List (Int×aa)}{nx:Nat}(h:UO u e):UO u (eJ nx e):=by unfold eJ;cases plain e <;> exact h
theorem IQ{u:List (Int×aa)}{nx:Nat}(h:UO u e):UO u (aU nx e):=by unfold aU;cases gB e <;> exact h
theorem zv(nx:Nat)(e:E):sz (eJ nx e)<=sz e + 1:=by unfold eJ;cases plain e <;> first | exact dJ _ | exact aO _
theorem zu(nx:Nat)(e:E):sz (aU nx e)<=sz e + 1:=by unfold aU;cases gB e <;> first | exact dJ _ | exact aO _
theorem Tn.hold{u:List (Int×aa)}{nx:Nat}(h:Tn u e):Ok u (eJ nx e):=⟨AD h.u,bJ (zv nx e) (cK (Nat.succ_lt_succ h.sz) (aI rfl))⟩
theorem Tn.RS{u:List (Int×aa)}(w:Bool)(f:Fx)(h:Tn u e):Ok u (lI w f e):=match w with
 | false=>h.hold
 | true=>⟨IQ (AD h.u),bJ (ai (zu _ _) (ee (zv _ e))) (cK (Nat.succ_lt_succ (Nat.succ_lt_succ h.sz)) (aI rfl))⟩
theorem GA(hd:∀p∈D,p.1 < n)(H:Tf f)(hS:S.length<=4)(hT:∀e∈S,Tn f.u e)(q:Int):R2 (d+7) f s D n S q:=by
 have lf:∀{a:Nat},a < 1000000->a < LF:=λh=>cK h (aI rfl)
 let J:Nat->List E->Prop:=λm B=>Gf (d+6) (f.st S) s D n m (q / 16) B
 let G:Nat->Nat->Prop:=λm k=>∀B:List E,B.length=k->(∀e∈B,e∈S)->2<=m->J m B
 have no:∀{m},m < 2->G m 1:=λh B _ _ h2=>absurd h2 (Nat.not_le_of_lt h)
 have one:∀{m},(∀a,Tn f.u a->J m [a])->G m 1:=λk B hl h _=>match B,hl,h with
  | [a],_,h=>k a (hT a (h a aF))
 have two:∀{m},(∀a b,Tn f.u a->Tn f.u b->J m [a,b])->G m 2:=λk B hl h _=>match B,hl,h with
  | [a,b],_,h=>k a b (hT a (h a aF)) (hT b (h b (bB _ aF)))
 have three:∀{m},(∀a b c,Tn f.u a->Tn f.u b->Tn f.u c->J m [a,b,c])->G m 3:=λk B hl h _=>match B,hl,h with
  | [a,b,c],_,h=>k a b c (hT a (h a aF)) (hT b (h b (bB _ aF))) (hT c (h c (bB _ (bB _ aF))))
 have mem:∀a,Tn f.u a->J 2 [a]/\J 3 [a]:=λa h=>by
  obtain ⟨t,f',n',r,hn,hm,ho,_,e⟩:=Be (d:=d+1) (f:=f.st S) (s:=s) hd (lf H.u) (lf H.rd) (q / 16) h.sm (h.hold (nx:=f.next))
  exact ⟨⟨t,_,n',hn,.mem hm ho,run [.g e]⟩,⟨t,_,n',hn,.mem hm ho,run [.g e]⟩⟩
 have asg:∀a b,Tn f.u a->Tn f.u b->J 5 [a,b]/\J 6 [a,b]:=λa b h k=>by
  obtain ⟨p,g,n',hn,hm,e⟩:=B8 (d:=d+1) (f:=f.st S) (s:=s) hd H.u (lf H.wr) (lf H.rd) (lf H.own) (q / 16) h.sm k.sm
  exact ⟨⟨_,_,n',hn,.asg hm,run [.g e]⟩,⟨_,_,n',hn,.asg hm,run [.g e]⟩⟩
 have un:∀a,Tn f.u a->J 8 [a]:=λa h=>by
  obtain ⟨t,f',n',hn,hm,e⟩:=Cz (d:=d) (f:=f.st S) (s:=s) hd (lf H.wr) (q / 16) h.sm
  exact ⟨t,f',n',hn,.un hm,run [.g e]⟩
 have wi:∀a,Tn f.u a->J 14 [a]:=λa h=>by
  obtain ⟨t,f',n',hn,hm,e⟩:=AJ (d:=d+1) (f:=f.st S) (s:=s) hd (q / 16) h.sm
  exact ⟨t,f',n',hn,.within hm,run [.g e]⟩
 have RS:∀w j,j < 3->G (bif w then 15 else 4) (1 + j):=λw j hj B hl h _=>by
  have ne:B≠[]:=λq=>by rw [q,Nat.add_comm]at hl;exact nomatch hl
  have e2:=List.dropLast_concat_getLast ne
  have l2:=(List.length_dropLast (xs:=B)).trans ((congrArg (· - 1) hl).trans (Nat.add_sub_cancel_left 1 j))
  revert e2 l2
  generalize B.dropLast=xs
  generalize B.getLast ne=c
  intro e2 l2
  subst e2
  have hc:=hT c (h c (c6 _ aF))
  obtain ⟨t,g,n',hn,hm,e⟩:=IB (d:=d+1) (f:=f.st S) (s:=s) (xs:=xs) hd H.rd (lf H.cl) (q / 16) w (l2▸Nat.le_of_lt_succ hj) hc.sm (λx hx=>(hT x (h x (cu _ hx))).sm) (hc.RS w (f.st S))
  cases w with
  | true=>exact ⟨t,_,n',hn,.call hm,run [.g e]⟩
  | false=>exact ⟨t,_,n',hn,.call hm,run [.g e]⟩
 have bin:∀a b,Tn f.u a->Tn f.u b->J 9 [a,b]/\J 10 [a,b]:=λa b h k=>M9 (d:=d) (f:=f.st S) hd (q / 16) h.sm k.sm
 obtain ⟨j3,h3,m3⟩:=DU (q / 16) 3 (by decide)
 obtain ⟨j2,h2,m2⟩:=DU (q / 16) 2 (by decide)
 have go:=λ(m k:Nat) (hk:0 < k) hg (g:G m k) (m16:arith eZ (.int q) (.int 16)=some (.int (m:Nat)))=>CQ (d:=d) (s:=s) (S:=S) (k:=k) hd H.u hS hk m16 m3 m2 hg g
 have hc:∀j,0 < 1 + j:=λj=>Nat.add_pos_left (aI rfl) j
 exact eL (P:=λz=>arith eZ (.int q) (.int 16)=some (.int z)->R2 (d+7) f s D n S q) 16 (aI rfl) (dZ (dZ (dZ (dZ (dZ (dZ (dZ (dZ (dZ (dZ (dZ (dZ (dZ (dZ (dZ (dZ yi
  (go 0 1 (aI rfl) (λ_=>rfl) (no (aI rfl)))) (go 1 1 (aI rfl) (λ_=>rfl) (no (aI rfl)))) (go 2 1 (aI rfl) (λ_=>rfl) (one λa h=>(mem a h).1))) (go 3 1 (aI rfl) (λ_=>rfl) (one λa h=>(mem a h).2)))
  (go 4 (1 + j3) (hc _) (λ_=>rfl) (RS false j3 h3))) (go 5 2 (aI rfl) (λ_=>rfl) (two λa b h k=>(asg a b h k).1))) (go 6 2 (aI rfl) (λ_=>rfl) (two λa b h k=>(asg a b h k).2)))
  (go 7 1 (aI rfl) (λ_=>rfl) (one λa h=>Ki (d:=d) (f:=f.st S) hd (lf H.u) (lf H.wr) (q / 16) h.sm))) (go 8 1 (aI rfl) (λ_=>rfl) (one un))) (go 9 2 (aI rfl) (λ_=>rfl) (two λa b h k=>(bin a b h k).1))) (go 10 2 (aI rfl) (λ_=>rfl) (two λa b h k=>(bin a b h k).2)))
  (go 11 3 (aI rfl) (λ_=>rfl) (three λa b c h k l=>G0 (d:=d) (f:=f.st S) hd (q / 16) h.sm k.sm l.sm))) (go 12 1 (aI rfl) (λ_=>rfl) (one λa h=>DC (d:=d) (f:=f.st S) hd (q / 16) h.sm))) (go 13 1 (aI rfl) (λ_=>rfl) (one λa h=>yf (d:=d) (f:=f.st S) hd (q / 16) h.sm)))
  (go 14 1 (aI rfl) (λ_=>rfl) (one wi))) (go 15 (1 + j2) (hc _) (λ_=>rfl) (RS true j2 (cK h2 (aI rfl))))) q (b9 (by decide))
end
structure Nw(lo:Nat)(X l:List Nat)(hi:Nat):Prop where
 le:lo<=hi
 a:∀m,l.count m<=X.count m + 1
 o:∀m,m<=lo\/hi < m->l.count m<=X.count m
section
variable{lo mid hi n:Nat}{X Y a b l r t:List Nat}
theorem Nw.src:Nw lo X X lo:=⟨aO _,λ_=>dJ _,λ_ _=>aO _⟩
theorem Nw.one(h:lo < n)(k:n<=hi):Nw lo [] [n] hi:=⟨ai (Nat.le_of_lt h) k,λm=>List.count_le_length,λm q=>Nat.le_of_eq (List.count_eq_zero.mpr λe=>(List.mem_singleton.mp e).symm▸q |>.elim (Nat.not_le_of_lt h) (Nat.not_lt_of_le k))⟩
theorem Nw.up(h:Nw lo X l mid)(k:mid<=hi):Nw lo X l hi:=⟨ai h.le k,h.a,λm q=>h.o m (q.imp_right (bJ k))⟩
theorem Nw.to(h:Nw lo X l hi)(k:∀m,X.count m<=Y.count m):Nw lo Y l hi:=⟨h.le,λm=>ai (h.a m) (ee (k m)),λm q=>ai (h.o m q) (k m)⟩
theorem Nw.of(h:Nw lo X l hi)(k:∀m,r.count m=l.count m):Nw lo X r hi:=⟨h.le,λm=>k m▸h.a m,λm q=>k m▸h.o m q⟩
theorem Nw.app(h:Nw lo X l mid)(k:Nw mid Y r hi):Nw lo (X++Y) (l++r) hi:=by
 refine ⟨ai h.le k.le,λm=>?_,λm q=>?_⟩
 ·rw [List.count_append,List.count_append]
  by_cases c:m<=mid
  ·exact ai (eX (h.a m) (k.o m (.inl c))) (Nat.le_of_eq (Nat.add_right_comm _ 1 _))
  ·show _<=X.count m + (Y.count m + 1)
   exact eX (h.o m (.inr (Nat.lt_of_not_le c))) (k.a m)
 ·rw [List.count_append,List.count_append]
  exact eX (h.o m (q.imp_right (bJ k.le))) (k.o m (q.imp_left λc=>ai c h.le))
theorem Nw.put(h:Nw lo [] (a++b) mid)(k:Nw mid b t hi):Nw lo [] (a++t) hi:=by
 have e:∀m,(a++b).count m=a.count m + b.count m:=λm=>List.count_append
 refine ⟨ai h.le k.le,λm=>?_,λm q=>?_⟩
 ·rw [List.count_append]
  by_cases c:m<=mid
  ·exact ai (dB (k.o m (.inl c)) _) (e m▸h.a m)
  ·have z:=Nat.add_eq_zero_iff.mp (Nat.le_zero.mp (e m▸h.o m (.inr (Nat.lt_of_not_le c))))
   rw [z.1,Nat.zero_add]
   have q:=k.a m
   rw [z.2]at q
   exact q
 ·rw [List.count_append]
  exact ai (dB (k.o m (q.imp_left λc=>ai c h.le)) _) (e m▸h.o m (q.imp_right (bJ k.le)))
theorem Nw.nodup(h:Nw lo [] l hi):l.Nodup:=List.nodup_iff_count.mpr h.a
end
structure Z(k:Nat)(f f':Fx):Prop where
 u:f'.u.length<=f.u.length + k
 wr:f'.wr.length<=f.wr.length + k
 rd:f'.rd.length<=f.rd.length + k
 cl:f'.cl.length<=f.cl.length + k
 own:f'.own.length<=f.own.length + k
noncomputable abbrev Fr(f:Fx):Prop:=∀m:Nat,f.next < m->cU f.u (m:Int)=none
structure Gr(N:E->Prop)(k:Nat)(f f':Fx):Prop where
 le:f.next<=f'.next
 u:∀m:Nat,m<=f.next->cU f'.u (m:Int)=cU f.u (m:Int)
 o:∀m:Nat,m<=f.next->cU f'.own (m:Int)=cU f.own (m:Int)
 fr:Fr f->Fr f'
 nums:f'.nums=f.nums
 key:f'.key=f.key
 wr:∀x∈f'.wr,x∈f.wr\/∃t,N t/\x=bq t/\lC t
 cl:∀x∈f'.cl,x∈f.cl\/∃t,N t/\x=nY t/\BA t=true
 rd:∀x∈f'.rd,x∈f.rd\/∃r,x=mq r/\r.ok=true
 z:Z k f f'
section
variable{N:E->Prop}{k j:Nat}{f f' f1 g:Fx}{e t A x:E}
theorem Z.refl:Z k f f:=⟨aJ _ _,aJ _ _,aJ _ _,aJ _ _,aJ _ _⟩
theorem Z.trans(a:Z k f f')(b:Z j f' g):Z (k + j) f g:=
 have t:∀{x y z:Nat},y<=x + k->z<=y + j->z<=x + (k + j):=λh1 h2=>ai h2 (ai (gN h1 j) (Nat.le_of_eq (Nat.add_assoc _ _ _)))
 ⟨t a.u b.u,t a.wr b.wr,t a.rd b.rd,t a.cl b.cl,t a.own b.own⟩
theorem Z.up(a:Z k f f')(h:k<=j):Z j f f':=
 have t:∀{x y:Nat},y<=x + k->y<=x + j:=λq=>ai q (dB h _)
 ⟨t a.u,t a.wr,t a.rd,t a.cl,t a.own⟩
theorem Gr.up(a:Gr N k f f')(h:k<=j):Gr N j f f':={a with z:=a.z.up h}
theorem Gr.nx{k:Nat}(i:Nat)(h:f.next<=i):Gr N k f (f.nx i):=⟨h,λ_ _=>rfl,λ_ _=>rfl,λh' m q=>h' m (bJ h q),rfl,rfl,λ_=>.inl,λ_=>.inl,λ_=>.inl,⟨aJ _ _,aJ _ _,aJ _ _,aJ _ _,aJ _ _⟩⟩
theorem Gr.bn{k:Nat}(i:Nat):Gr N k f (bn f i):=.nx _ (aJ _ _)
theorem Gr.refl:Gr N k f f:=.nx f.next (aO _)
theorem Gr.trans(a:Gr N k f f')(b:Gr N j f' g):Gr N (k + j) f g:=⟨ai a.le b.le,λm h=>(b.u m (ai h a.le)).trans (a.u m h),λm h=>(b.o m (ai h a.le)).trans (a.o m h),λh=>b.fr (a.fr h),b.nums.trans a.nums,b.key.trans a.key,
 λx h=>(b.wr x h).elim (a.wr x) .inr,λx h=>(b.cl x h).elim (a.cl x) .inr,λx h=>(b.rd x h).elim (a.rd x) .inr,a.z.trans b.z⟩
theorem ne_int{a b:Nat}(h:a≠b):(a:Int)≠(b:Int):=λq=>h (Int.ofNat.inj q)
theorem qi{α:Type}{P:Prop}{l:List α}{a b:α}(h:b∈l++[a])(k:b=a->P):b∈l\/P:=(List.mem_append.mp h).imp_right λh=>k (List.mem_singleton.mp h)
theorem ft{α:Type}{l:List α}{a:α}:(l++[a]).length<=l.length + 1:=Nat.le_of_eq List.length_append
theorem Gr.aR{r:Rr}(h:r.ok=true):Gr N 1 f (f.pL (mq r)):={(Gr.refl:Gr N 1 f f)with rd:=λx q=>qi q λe=>⟨r,e,h⟩,z:={(Z.refl:Z 1 f f)with rd:=ft}}
theorem Gr.aW(n:N t)(h:lC t):Gr N 1 f (f.addW (bq t)):={(Gr.refl:Gr N 1 f f)with wr:=λx q=>qi q λe=>⟨t,n,e,h⟩,z:={(Z.refl:Z 1 f f)with wr:=ft}}
theorem Gr.aC(n:N t)(h:BA t=true):Gr N 1 f (f.vk (nY t)):={(Gr.refl:Gr N 1 f f)with cl:=λx q=>qi q λe=>⟨t,n,e,h⟩,z:={(Z.refl:Z 1 f f)with cl:=ft}}
theorem z7{l:List (Int×aa)}{n m:Nat}{v:aa}(h:m≠n):cU (kJ l (n:Int) v) (m:Int)=cU l (m:Int):=uk (ne_int h)
theorem Gr.nm(u:Nt):Gr N 1 f (DP f u):=
 have q:∀o:Option aa,(∀m:Nat,m≠f.next + 1->cU (o.elim f.u λv=>kJ f.u ((f.next + 1:Nat):Int) v) (m:Int)=cU f.u (m:Int))/\(o.elim f.u λv=>kJ f.u ((f.next + 1:Nat):Int) v).length<=f.u.length + 1:=λo=>match o with
  | none=>⟨λ_ _=>rfl,dJ _⟩
  | some v=>⟨λm h=>z7 h,nK⟩
 {(Gr.bn 1:Gr N 1 f (Mn.Q.bn f 1))with
  u:=λm h=>(q u.Ci).1 m (Nat.ne_of_lt (Nat.lt_succ_of_le h))
  fr:=λh m k=>((q u.Ci).1 m (Nat.ne_of_gt k)).trans (h m (Nat.lt_of_succ_lt k))
  z:={(Z.refl:Z 1 f f)with u:=(q u.Ci).2}}
theorem Gr.asg(n:N A)(h:bW A=f.next + 1)(T:lC A):Gr N 1 f (IK f A):=
 {(Gr.bn 1:Gr N 1 f (Mn.Q.bn f 1))with
  o:=λm k=>z7 (h▸Nat.ne_of_lt (Nat.lt_succ_of_le k))
  wr:=(Gr.aW n T:Gr N 1 f _).wr
  z:={(Z.refl:Z 1 f f)with wr:=ft,own:=nK}}
noncomputable def Ub(f:Fx)(l:List (Nat×Option aa)):Prop:=∀p∈l,p.1<=f.next/\cU f.u (p.1:Int)=p.2
structure Tr(f:Fx)(e:E):Prop where
 w:wt e
 u:Ub f (ny e)
 o:∀F,h9 e=some F->bW F<=f.next/\cU f.own (bW F:Int)=some (qx (dn F))
theorem Tr.mono(g:Gr N k f f')(h:Tr f e):Tr f' e:=⟨h.w,λp hp=>⟨ai (h.u p hp).1 g.le,(g.u _ (h.u p hp).1).trans (h.u p hp).2⟩,λF hF=>⟨ai (h.o F hF).1 g.le,(g.o _ (h.o F hF).1).trans (h.o F hF).2⟩⟩
theorem Ub.two{a b:List (Nat×Option aa)}(h1:Ub f a)(h2:Ub f b):Ub f (a++b):=λp hp=>(List.mem_append.mp hp).elim (h1 p) (h2 p)
theorem Ub.nil:Ub f []:=nofun
theorem Ub.one{p:Nat×Option aa}(h:p.1<=f.next)(k:cU f.u (p.1:Int)=p.2):Ub f [p]:=bt ⟨h,k⟩
structure Kd(N:E->Prop)(k:Nat)(f f':Fx)(e:E)(s:List Nat)(c:Nat)(x:E):Prop where
 gr:Gr N k f f'
 tr:Tr f' x
 ct:Nw f.next (all e) (all x++s) f'.next
 xd:(dn x).length<=(dn e).length
 xp:dep x<=c
theorem Kd.src(h:Tr f e)(k:dep e<=j):Kd N 0 f f e [] j e:=⟨.refl,h,(cY (all e)).symm▸ .src,aO _,k⟩
theorem Nw.sn{lo:Nat}{X l:List Nat}{mid n hi:Nat}(h:Nw lo X l mid)(h1:mid < n)(h2:n<=hi):Nw lo X (l++[n]) hi:=cY X▸h.app (.one h1 h2)
theorem Kd.wr{c:Nat}(h:Kd N k f f' e [] c x)(w:Wk):Kd N k f (Mn.Q.bn f' 1) e [] (c + 1) (.wr w x (f'.next + 1)):=
 have g:Gr N 0 f' (Mn.Q.bn f' 1):=.bn 1
 have t:=h.tr.mono g
 ⟨h.gr.trans g,⟨t.w,t.u,t.o⟩,(cY (all x++[f'.next + 1])).symm▸Nw.sn (cY (all x)▸h.ct) (cZ _) (aO _),h.xd,ee h.xp⟩
theorem Kd.le{c c':Nat}{s:List Nat}(h:Kd N k f f' e s c x)(q:c<=c'):Kd N k f f' e s c' x:={h with xp:=ai h.xp q}
theorem Kd.vJ{c:Nat}(h:Kd N k f f' e [] c x):Kd N k f (Mn.Q.bn f' (dC x)) e [] (c + 1) (aU f'.next x):=by
 unfold dC aU
 cases gB x with
 | true=>exact h.wr .chain
 | false=>exact h.le (dJ _)
theorem Kd.hold{c:Nat}(h:Kd N k f f' e [] c x):Kd N k f (Mn.Q.bn f' (gD x)) e [] (c + 1) (eJ f'.next x):=by
 unfold gD eJ
 cases plain x with
 | true=>exact h.le (dJ _)
 | false=>exact h.wr .paren
theorem Kd.part{c:Nat}(h:Kd N k f f' e [] c x):Kd N k f (dK f' x) e [] (c + 2) (f6 f'.next x):=h.hold.vJ
theorem Po(u:Nt)(h:Fr f):cU (DP f u).u ((f.next + 1:Nat):Int)=u.Ci:=by
 show cU (u.Ci.elim f.u λv=>kJ f.u ((f.next + 1:Nat):Int) v) _=_
 cases u.Ci with
 | none=>exact h _ (cZ _)
 | some v=>exact i6
theorem Tr.nm(u:Nt)(h:Fr f):Tr (DP f u) (.nm u (f.next + 1)):=⟨trivial,.one (aO _) (Po u h),nofun⟩
theorem Kd.Gq(h:Fr f)(T:Tr f e)(q:dep e<=j):Kd N 1 f (sy f e) e [] j (tO f e):=by
 unfold sy tO
 cases qe e with
 | true=>exact {(Kd.src T q:Kd N 0 f f e [] j e)with gr:=.refl}
 | false=>exact ⟨.nm .x,.nm .x h,(Nw.one (cZ _) (aO _)).to λm=>bP _,bP _,ai (yO e) q⟩
end
noncomputable def fa(L:List E)(r:List Nat):List Nat:=L.foldr (λe r=>all e++r) r
noncomputable def fd(L:List E):Nat:=L.foldr (λe n=>(dn e).length + n) 0
noncomputable def fP(P:E->Prop)(L:List E):Prop:=L.foldr (λe p=>P e/\p) True
theorem EY(s:List Nat)(L:List E)(r:List Nat)(m:Nat):(fa L (s++r)).count m=s.count m + (fa L r).count m:=by
 induction L with
 | nil=>exact List.count_append
 | cons e L ih=>
  show (all e++fa L (s++r)).count m=_ + (all e++fa L r).count m
  rw [List.count_append,List.count_append,ih,Nat.add_left_comm]
structure zk(N:E->Prop)(k:Nat)(f f':Fx)(Xs:List E)(s:List Nat)(L:List E):Prop where
 gr:Gr N k f f'
 tr:∀{j f1},Gr N j f' f1->fP (Tr f1) L
 ct:∀{Y r hi},Nw f'.next Y r hi->Nw f.next (fa Xs Y) (fa L (s++r)) hi
 xd:fd L<=fd Xs
 xp:fP (dep ·<=8) L
structure Mk(N:E->Prop)(k:Nat)(f f':Fx)(Xs:List E)(t:E):Prop where
 gr:Gr N k f f'
 tr:Tr f' t
 ct:Nw f.next (fa Xs []) (all t) f'.next
 xd:(dn t).length<=fd Xs + 2
 xp:dep t<=9
section
variable{N:E->Prop}{k j i:Nat}{f f' f1 f2 g:Fx}{e t A x y:E}{L Xs:List E}{s r:List Nat}
theorem zk.nil:zk N 0 f f [] [] []:=⟨.refl,λ_=>trivial,id,aO _,trivial⟩
theorem zk.cons{s':List Nat}(h:Kd N k f f' e s' 8 x)(t:zk N j f' g Xs s L):zk N (k + j) f g (e::Xs) (s'++s) (x::L):=
 ⟨h.gr.trans t.gr,λq=>⟨h.tr.mono (t.gr.trans q),t.tr q⟩,λ{Y r hi} q=>(h.ct.app (t.ct q)).of λm=>(by
  show (all x++fa L ((s'++s)++r)).count m=((all x++s')++fa L (s++r)).count m
  rw [cL,List.count_append,List.count_append,List.count_append,EY,Nat.add_assoc]),eX h.xd t.xd,⟨h.xp,t.xp⟩⟩
theorem zk.node(h:zk N k f f' Xs s L)(g:Gr N j f' f1)(q:k + j<=i)(ha:all t=fa L (s++r))(hr:Nw f'.next [] r f1.next)(hT:fP (Tr f1) L->Tr f1 t)(hd:(dn t).length<=fd L + 2)(hp:fP (dep ·<=8) L->dep t<=9):Mk N i f f1 Xs t:=
 ⟨(h.gr.trans g).up q,hT (h.tr g),ha▸h.ct hr,ai hd (gN h.xd 2),hp h.xp⟩
theorem Mk.on(h:Mk N k f f' Xs t)(g:Gr N j f' f1):Mk N (k + j) f f1 Xs t:=⟨h.gr.trans g,h.tr.mono g,h.ct.up g.le,h.xd,h.xp⟩
theorem Mk.up(h:Mk N k f f' Xs t)(q:k<=j):Mk N j f f' Xs t:={h with gr:=h.gr.up q}
theorem Kd.n1(h:Kd N k f f' e [] 8 x)(i:Nat)(hi:0 < i)(t:E)(ha:all t=all x++[f'.next + i])(hw:wt x->wt t)(hu:ny t=ny x)(hs:∀F,h9 t=some F->h9 x=some F)(hd:(dn t).length<=(dn x).length + 2)(hp:dep t<=dep x + 1):Mk N k f (Mn.Q.bn f' i) [e] t:=
 (zk.cons h .nil).node (.bn (k:=0) i) (aO _) (r:=[f'.next + i]) ha (.one (kW hi) (aO _)) (λp=>⟨hw p.1.w,hu▸p.1.u,λF hF=>p.1.o F (hs F hF)⟩) hd λp=>ai hp (ee p.1)
theorem SX(F:Fr f')(h:Kd N k f f' e [] 8 x)(m:zl f' x t f1):Mk N (k + 1) f f1 [e] t:=by
 cases m with
 | mem o c=>exact (h.n1 1 (aI rfl) (.mem o c x (f'.next + 1)) rfl id rfl (λ_=>id) (ai ft (dJ _)) (aO _)).up (dJ _)
 | str o c=>exact (h.n1 2 (aI rfl) (.idx o (.str c (f'.next + 1)) x (f'.next + 2)) rfl id (cY _) nofun (ai ft (dJ _)) (aO _)).up (dJ _)
 | rO o c=>exact (h.n1 2 (aI rfl) (.idx o (.rO c (f'.next + 1)) x (f'.next + 2)) rfl id (cY _) nofun (ai ft (dJ _)) (aO _)).up (dJ _)
 | y o=>exact (zk.cons h .nil).node ((Gr.nm .y).trans (.bn (k:=0) 1)) (aO _) (r:=[f'.next + 2]) rfl (.one (kW (aI rfl)) (aO _)) (λp=>⟨p.1.w,p.1.u.two (.one (dJ _) (Po .y F)),nofun⟩) (ai ft (dJ _)) λp=>ee p.1
theorem Sd(h:Kd N k f f' e [] 8 x)(m:Rb f' x t f1):Mk N k f f1 [e] t:=by
 cases m with
 | fn=>exact h.n1 2 (aI rfl) _ rfl id rfl nofun (bP _) (aO _)
 | cls=>exact h.n1 4 (aI rfl) _ rfl id rfl nofun (aJ _ _) (aO _)
theorem DH(e:E):(obj e).isSome=true->eN (jc e)=true:=by
 induction e with
 | wr k e n ih=>exact ih
 | mem=>exact λ_=>rfl
 | idx=>exact λ_=>rfl
 | _=>exact nofun
theorem Vx(h:Kd (·=t) k f f' e [] 8 x)(m:Rf f' x t f1):Mk (·=t) (k + 1) f f1 [e] t:=by
 cases m with
 | del o=>exact (h.n1 1 (aI rfl) (.un .del x (f'.next + 1)) rfl (λw=>⟨⟨DH x o,o⟩,w⟩) rfl (λ_=>id) (ai ft (dJ _)) (aO _)).on (.aW rfl ⟨rfl,bt (DH x o)⟩)
 | Pf g hg=>exact (h.n1 1 (aI rfl) (.un g x (f'.next + 1)) rfl (λw=>⟨by cases g <;> first | trivial | exact (nomatch hg),w⟩) rfl (λ_=>id) (ai ft (dJ _)) (aO _)).up (dJ _)
theorem QM(a b:List Nat)(n:Nat):(a++b).length<=a.length + (b.length + 0) + 2:=List.length_append▸aJ _ 2
theorem TP(h:Kd N k f f' e [] 8 x)(h2:Kd N j f' f1 A [] 8 y)(g:Bs):Mk N (k + j) f (Mn.Q.bn f1 1) [e,A] (.bin g x y (f1.next + 1)):=
 (zk.cons h (.cons h2 .nil)).node (.bn (k:=0) 1) (aO _) (r:=[f1.next + 1]) rfl (.one (cZ _) (aO _)) (λp=>⟨⟨p.1.w,p.2.1.w⟩,p.1.u.two p.2.1.u,λF=>match g with
  | .eq=>p.1.o F
  | .plus=>p.1.o F
  | .and=>nofun
  | .or=>nofun
  | .nul=>nofun⟩) (QM _ _ 0) λp=>ee (Nat.max_le.mpr ⟨p.1,p.2.1⟩)
theorem Pa{z:E}(h:Kd N k f f' e [] 8 x)(h2:Kd N j f' f1 A [] 8 y)(h3:Kd N i f1 f2 t [] 8 z):Mk N (k + (j + i)) f (Mn.Q.bn f2 1) [e,A,t] (.pick x y z (f2.next + 1)):=
 (zk.cons h (.cons h2 (.cons h3 .nil))).node (.bn (k:=0) 1) (aO _) (r:=[f2.next + 1]) rfl (.one (cZ _) (aO _)) (λp=>⟨⟨p.1.w,p.2.1.w,p.2.2.1.w⟩,(p.1.u.two p.2.1.u).two p.2.2.1.u,nofun⟩) (by
  show (dn x++(dn y++dn z)).length<=_
  rw [List.length_append,List.length_append];exact aJ _ 2) λp=>ee (Nat.max_le.mpr ⟨p.1,Nat.max_le.mpr ⟨p.2.1,p.2.2.1⟩⟩)
end
noncomputable def Pk.xn(k:Pk):List (Nat×Option aa):=match k with
 | .p5 _ x _ _=>[(x,some (.int 1))]
 | _=>[]
structure Vm(N:E->Prop)(f g:Fx)(k:Pk):Prop where
 gr:Gr N 2 f g
 i:Nw f.next [] k.ids g.next
 m:k.marks.length<=1
 x:∀{j g'},Gr N j g g'->Ub g' k.xn
section
variable{N:E->Prop}{k j i:Nat}{f f' f1 f2 g:Fx}{e t A x y z:E}{L Xs B:List E}{s r:List Nat}{p:Pk}
theorem SK{lo hi:Nat}(h:lo<=hi):Nw lo [] [] hi:=Nw.up .src h
theorem II(h:NH f t p g):Vm N f g p:=by
 have two:Nw f.next [] [f.next + 2] (f.next + 2):=.one (kW (aI rfl)) (aO _)
 cases h with
 | op o=>exact ⟨.refl,.src,bP _,λ_=>.nil⟩
 | p4=>exact ⟨(Gr.bn (k:=1) 2).trans (.aR rfl),two,aO _,λ_=>.nil⟩
 | p6=>exact ⟨(Gr.bn (k:=1) 2).trans (.aR rfl),two,aO _,λ_=>.nil⟩
 | p5=>exact ⟨(Gr.bn (k:=0) 1).trans ((Gr.nm .x).trans ((Gr.bn (k:=0) 2).trans (.aR rfl))),two.app (.one (kW (aI rfl:0 < 2)) (aO _)),aO _,λq=>.one (ai (aJ (f.next + 2) 2) q.le) ((q.u _ (aJ (f.next + 2) 2)).trans i6)⟩
theorem Tx(a b c:List Nat)(n:Nat)(h:c.length<=1):(a++(b++(c++[n]))).length<=a.length + (b.length + 0) + 2:=by
 rw [List.length_append,List.length_append,List.length_append]
 exact dB (k:=a.length) (dB (k:=b.length) (ee h))
theorem TU(h:Kd (·= .asg p x y (g.next + 1)) k f f' e [] 8 x)(h2:Kd (·= .asg p x y (g.next + 1)) j f' f1 A [] 8 y)(hx:eN x=true)(I:Vm (·= .asg p x y (g.next + 1)) f1 g p)(q:k + (j + 0) + 3<=i):Mk (·= .asg p x y (g.next + 1)) i f (IK g (.asg p x y (g.next + 1))) [e,A] (.asg p x y (g.next + 1)):=
 have ga:=Gr.asg (N:=(·= .asg p x y (g.next + 1))) (f:=g) rfl rfl (vf hx)
 (zk.cons h (.cons h2 .nil)).node (I.gr.trans ga) q (r:=p.ids++[g.next + 1]) rfl (I.i.sn (cZ _) (aO _)) (λp=>⟨⟨hx,p.1.w,p.2.1.w⟩,(p.1.u.two p.2.1.u).two (I.x ga),λF hF=>ay hF▸⟨aO _,i6⟩⟩) (Tx _ _ _ _ I.m) λp=>ee (Nat.max_le.mpr ⟨p.1,p.2.1⟩)
theorem Sf{b:Bool}(h:Kd (·= .upd b x (f'.next + 1)) k f f' e [] 8 x)(hx:eN x=true):Mk (·= .upd b x (f'.next + 1)) (k + 1) f ((Mn.Q.bn f' 1).addW (bq (.upd b x (f'.next + 1)))) [e] (.upd b x (f'.next + 1)):=
 (h.n1 1 (aI rfl) (.upd b x (f'.next + 1)) rfl (λw=>⟨hx,w⟩) rfl nofun (ai ft (dJ _)) (aO _)).on (.aW rfl ⟨rfl,bt hx⟩)
theorem TY(sp:Bool)(T:Tr f e)(q:dep e<=6):Kd N 1 f (dF sp f e) e (hZ sp f e).toList 8 (aU f.next e):=by
 have k:Kd N 0 f (Mn.Q.bn f (dC e)) e [] 7 (aU f.next e):=(Kd.src T q).vJ
 cases sp with
 | false=>exact {k.le (dJ 7)with gr:=k.gr.up (dJ 0)}
 | true=>
  have g:Gr N (0 + 1) (Mn.Q.bn f (dC e)) (dF true f e):=(Gr.bn 1).trans (.aR rfl)
  exact ⟨k.gr.trans g,k.tr.mono g,(cY (all (aU f.next e))▸k.ct:Nw f.next (all e) (all (aU f.next e)) (Mn.Q.bn f (dC e)).next).sn (cZ _) (aO _),k.xd,Nat.le_succ_of_le k.xp⟩
theorem WB(w:Bool)(T:Tr f e)(q:dep e<=6):Kd N 0 f (eC w f e) e [] 8 (lI w f e):=by
 cases w with
 | true=>exact (Kd.src T q).part
 | false=>exact (Kd.src T q).hold.le (dJ 7)
theorem Ip(L:List E)(e:E)(m:Nat):(fa (L++[e]) []).count m=(all e).count m + (fa L []).count m:=by
 induction L with
 | nil=>exact congrArg (List.count m) (cY (all e))
 | cons x L ih=>
  show (all x++fa (L++[e]) []).count m=_ + (all x++fa L []).count m
  rw [List.count_append,List.count_append,ih,Nat.add_left_comm]
theorem Al(L:List E)(e:E):fd (L++[e])=(dn e).length + fd L:=by
 induction L with
 | nil=>rfl
 | cons x L ih=>
  show (dn x).length + fd (L++[e])=_ + ((dn x).length + fd L)
  rw [ih,Nat.add_left_comm]
theorem Mk.VL(h:Mk N k f f' (e::L) t):Mk N k f f' (L++[e]) t:={h with
 ct:=h.ct.to λm=>Nat.le_of_eq ((List.count_append (l₁:=all e) (l₂:=fa L [])).trans (Ip L e m).symm)
 xd:=(Al L e).symm▸h.xd}
theorem MZ{w o:Bool}{k:Ak}{f p q:E}{m n:Nat}(h:k.more.length<=1)(l:(k.al (dn p) (dn q)).length=i):(dn (.call w o k f p q m n)).length<=(dn f).length + i + 2:=by
 show (dn f++(k.al (dn p) (dn q)++(k.more++[n]))).length<=_
 rw [List.length_append,List.length_append,List.length_append,l,Nat.add_assoc]
 exact dB (dB (ee h) _) _
theorem zL(s:Option Nat):s.toList.length<=1:=match s with
 | none=>bP _
 | some _=>aO _
theorem Mk.cls(h:Mk (·=t) k f f' Xs t)(q:BA t=true):Mk (·=t) (k + 1) f (f'.vk (nY t)) Xs t:=h.on (.aC rfl q)
theorem Q1{w:Bool}{c:E}(hB:∀e∈B++[c],Tr f e/\dep e<=6)(h:tF w (eC w f c) (lI w f c) B t g):Mk (·=t) 3 f (g.vk (nY t)) (B++[c]) t:=by
 refine Mk.VL ?_
 have hc:=hB c (c6 _ aF)
 have kc:=λN=>WB (N:=N) w hc.1 hc.2
 cases h with
 | zero o=>exact ((zk.cons (kc _) .nil).node (t:=.call w o .zero (lI w f c) rj rj ((eC w f c).next + 1) ((eC w f c).next + 2)) (.bn (k:=0) 2) (bP 2) (r:=[(eC w f c).next + 2]) rfl (.one (kW (aI rfl)) (aO _)) (λp=>⟨⟨p.1.w,trivial,trivial⟩,(p.1.u.two .nil).two .nil,nofun⟩) (MZ (k:=.zero) (bP _) rfl) λp=>ee (Nat.max_le.mpr ⟨p.1,aI rfl⟩)).cls rfl
 | one o sp a=>
  have ha:=hB a aF
  have ka:=λN=>TY (N:=N) sp (ha.1.mono (kc N).gr) ha.2
  exact ((zk.cons (kc _) (.cons (ka _) .nil)).node (t:=.call w o (.one (hZ sp (eC w f c) a)) (lI w f c) (aU (eC w f c).next a) rj ((dF sp (eC w f c) a).next + 1) ((dF sp (eC w f c) a).next + 2)) (.bn (k:=0) 2) (dJ 1) (r:=[(dF sp (eC w f c) a).next + 2]) (congrArg (λl=>all (lI w f c)++(all (aU (eC w f c).next a)++(l++[(dF sp (eC w f c) a).next + 2]))) (cY _).symm) (.one (kW (aI rfl)) (aO _)) (λp=>⟨⟨p.1.w,p.2.1.w,trivial⟩,(p.1.u.two p.2.1.u).two .nil,nofun⟩) (MZ (k:=.one _) (zL _) rfl) λp=>ee (Nat.max_le.mpr ⟨p.1,Nat.max_le.mpr ⟨p.2.1,aI rfl⟩⟩)).cls rfl
 | two o sp sq a b hs=>
  have ha:=hB a aF
  have hb:=hB b (bB _ aF)
  have ka:=λN=>TY (N:=N) sp (ha.1.mono (kc N).gr) ha.2
  have kb:=λN=>TY (N:=N) sq ((hb.1.mono (kc N).gr).mono (ka N).gr) hb.2
  refine ((zk.cons (kc _) (.cons (ka _) (.cons (kb _) .nil))).node (t:=.call w o (.two (hZ sp (eC w f c) a) (hZ sq (dF sp (eC w f c) a) b)) (lI w f c) (aU (eC w f c).next a) (aU (dF sp (eC w f c) a).next b) ((dF sq (dF sp (eC w f c) a) b).next + 1) ((dF sq (dF sp (eC w f c) a) b).next + 2)) (.bn (k:=0) 2) (aO 2) (r:=[(dF sq (dF sp (eC w f c) a) b).next + 2]) ?_ (.one (kW (aI rfl)) (aO _)) (λp=>⟨⟨p.1.w,p.2.1.w,p.2.2.1.w⟩,(p.1.u.two p.2.1.u).two p.2.2.1.u,nofun⟩) (MZ (k:=.two _ _) ?_ List.length_append) λp=>ee (Nat.max_le.mpr ⟨p.1,Nat.max_le.mpr ⟨p.2.1,p.2.2.1⟩⟩)).cls rfl
  ·show all (lI w f c)++((all (aU (eC w f c).next a)++all (aU (dF sp (eC w f c) a).next b))++(((hZ sp (eC w f c) a).toList++(hZ sq (dF sp (eC w f c) a) b).toList)++[(dF sq (dF sp (eC w f c) a) b).next + 2]))=all (lI w f c)++(all (aU (eC w f c).next a)++(all (aU (dF sp (eC w f c) a).next b)++(((hZ sp (eC w f c) a).toList++((hZ sq (dF sp (eC w f c) a) b).toList++[]))++[(dF sq (dF sp (eC w f c) a) b).next + 2])))
   rw [cY,cL (all (aU (eC w f c).next a))]
  ·cases sp with
   | false=>exact zL _
   | true=>
    rw [show sq=false from hs]
    exact aO 1
theorem Kd.Um(h:Kd N k f f' e [] 9 x):Mk N k f f' [e] x:=⟨h.gr,h.tr,(h.ct.of λm=>by rw [cY]).to λm=>Nat.le_of_eq (congrArg (List.count m) (cY (all e)).symm),ai h.xd (aJ _ 2),h.xp⟩
theorem Hj(F:Fr f)(hB:∀e∈B,Tr f e/\dep e<=6)(h:Made f B t f'):Mk (·=t) 10 f f' B t:=by
 have up:∀{k B t f'},Mk (·=t) k f f' B t->Nat.ble k 10=true->Mk (·=t) 10 f f' B t:=λh q=>h.up (bY q)
 cases h with
 | @mem e t g r h ho=>
  have T:=hB e aF
  exact up ((SX ((Gr.bn (N:=λ_=>True) (k:=0) (gD e)).fr F) ((Kd.src T.1 T.2).hold.le (dJ 7)) h).on (.aR ho)) rfl
 | @un e t g h=>
  have T:=hB e aF
  exact up (Vx (Kd.src T.1 T.2).part h) rfl
 | @upd w e=>
  have T:=hB e aF
  exact up (Sf ((Kd.Gq F T.1 T.2).le (aJ 6 2)) (tN f e)) rfl
 | @paren e=>
  have T:=hB e aF
  exact up (((Kd.src T.1 T.2).vJ.wr .paren).le (dJ 8)).Um rfl
 | @eh e=>
  have T:=hB e aF
  exact up (((Kd.src T.1 T.2).hold.wr .eh).le (dJ 8)).Um rfl
 | @within e t g h=>
  have T:=hB e aF
  exact up (Sd ((Kd.src T.1 T.2).vJ.le (dJ 7)) h) rfl
 | @bin s x y=>
  have T:=hB x aF
  have T':=hB y (bB _ aF)
  have k:=λN=>(Kd.src (N:=N) T.1 T.2).part
  exact up (TP (k _) (Kd.src (T'.1.mono (k (λ_=>True)).gr) T'.2).part s) rfl
 | @pick x y z=>
  have T:=hB x aF
  have T':=hB y (bB _ aF)
  have T2:=hB z (bB _ (bB _ aF))
  have k:=λN=>(Kd.src (N:=N) T.1 T.2).part
  have k':=λN=>(Kd.src (N:=N) (T'.1.mono (k (λ_=>True)).gr) T'.2).part
  exact up (Pa (k _) (k' _) (Kd.src ((T2.1.mono (k (λ_=>True)).gr).mono (k' (λ_=>True)).gr) T2.2).part) rfl
 | @asg p g a b h=>
  have T:=hB a aF
  have T':=hB b (bB _ aF)
  have k:=λN=>(Kd.Gq (N:=N) F T.1 T.2).le (aJ 6 2)
  exact TU (k _) ((Kd.src (T'.1.mono (k (λ_=>True)).gr) T'.2).vJ.le (dJ 7)) (tN f a) (II h) (bY rfl)
 | @call w xs c t g h=>exact up (Q1 hB h) rfl
end
noncomputable def Wd:Nat->Nat
 | 0=>5
 | d + 1=>Wd d + (Wd d + Wd d)
theorem T4(d:Nat):5<=Wd d:=Nat.rec (aO 5) (λ_ ih=>ai ih (aJ _ _)) d
theorem Rc{a b:Nat}(h:a<=b):Wd a<=Wd b:=Nat.le.rec (aO _) (λ_ ih=>ai ih (aJ _ _)) h
noncomputable def Wb(m d:Nat):Prop:=m + 5<=Wd d
section
variable{a b c k m d p q r:Nat}
theorem Wb.z:Wb 0 d:=T4 d
theorem Wb.up(h:Wb m p)(k:p<=d):Wb m d:=ai h (Rc k)
theorem Wb.of(ha:Wb a d)(hb:Wb b d)(hc:Wb c d)(hm:m<=a + b + c + 10):Wb m (d + 1):=
 ai (gN hm 5) (ai (Nat.le_of_eq (by
  show a + b + c + 15=(a + 5) + ((b + 5) + (c + 5))
  rw [Nat.add_add_add_comm b 5 c 5,Nat.add_add_add_comm a 5 (b + c) 10,Nat.add_assoc a b c])) (eX ha (eX hb hc)))
theorem Wb.one(h:Wb a d)(q:k<=10):Wb (a + k) (d + 1):=.of h .z .z (dB q a)
theorem Wb.two(h:Wb a p)(h2:Wb b q)(k:m<=a + b + 10):Wb m (max p q + 1):=.of (h.up (Nat.le_max_left _ _)) (h2.up (Nat.le_max_right _ _)) .z k
theorem Wb.three(h:Wb a p)(h2:Wb b q)(h3:Wb c r)(k:m<=a + b + c + 10):Wb m (max p (max q r) + 1):=.of (h.up (Nat.le_max_left _ _)) (h2.up (ai (Nat.le_max_left _ _) (Nat.le_max_right _ _))) (h3.up (ai (Nat.le_max_right _ _) (Nat.le_max_right _ _))) k
end
theorem Kt(s:Option Nat):(sw s).c<=2:=match s with
 | none=>bP _
 | some _=>aO _
structure WP(e:E):Prop where
 s:Wb (sz e) (dep e)
 c:Wb (xw e).c (dep e)
theorem wp(e:E):WP e:=by
 have one:∀{e t:E} {i j:Nat},WP e->sz t=sz e + i->(xw t).c<=(xw e).c + j->dep t=dep e + 1->i<=10->j<=10->WP t:=λ{e t i j} h h1 h2 h3 hi hj=>⟨by rw [h1,h3];exact h.s.one hi,by rw [h3];exact .of h.c .z .z (ai h2 (dB hj _))⟩
 have ac:∀{x y i:Nat},i<=10->x + y + i<=x + y + 10:=λh=>dB h _
 have lit:∀{a b:Nat},Nat.ble a b=true->a<=b:=bY
 induction e with
 | wr k e n i=>exact one (i:=1) (j:=0) i rfl (aO _) rfl (lit rfl) (lit rfl)
 | mem o c e n i=>exact one (i:=1) (j:=3) i rfl (aO _) rfl (lit rfl) (lit rfl)
 | idx o t e n i=>exact one (i:=2) (j:=3) i rfl (aO _) rfl (lit rfl) (lit rfl)
 | call w o k f p q m n i1 i2 i3=>
  refine ⟨i1.s.three i2.s i3.s (ac (lit rfl)),i1.c.three i2.c i3.c ?_⟩
  have h:(k.w (xw p) (xw q)).c<=(xw p).c + (xw q).c + 4:=by
   cases k with
   | zero=>exact bP _
   | one s=>exact ai (dB (Kt s) _) (by rw [Nat.add_right_comm];exact ai (dB (lit rfl:2<=4) _) (aJ _ _))
   | two s t=>exact ai (eX (dB (Kt s) _) (dB (Kt t) _)) (Nat.le_of_eq (Nat.add_add_add_comm _ _ _ _))
  show (xw f).c + 1 + ((k.w (xw p) (xw q)).c + 2)<=_
  exact ai (dB (gN h 2) _) (by omega)
 | asg k t v n i1 i2=>
  refine ⟨i1.s.two i2.s (ac (lit rfl)),i1.c.two i2.c ?_⟩
  show (k.w t (xw t) (xw v) n).c<=_
  generalize xw t=x
  generalize xw v=y
  have w2c:∀t n,(w2 t n).c=2:=λ_ _=>rfl
  cases k with
  | op o=>show x.c + (2 + (y.c + (2 + 1)))<=_;omega
  | p4=>show y.c + (x.c + (2 + 2) + 1)<=_;omega
  | p5=>show y.c + (x.c + (2 + 2) + (2 + 2) + 1)<=_;omega
  | p6=>show y.c + (x.c + 2 + 1)<=_;omega
 | un s e n i=>cases s with
  | del=>exact one (i:=1) (j:=2) i rfl (aO _) rfl (lit rfl) (lit rfl)
  | _=>exact one (i:=1) (j:=0) i rfl (aO _) rfl (lit rfl) (lit rfl)
 | upd b t n i=>exact one (i:=1) (j:=4) i rfl (aO _) rfl (lit rfl) (lit rfl)
 | fn e m n i=>exact one (i:=4) (j:=0) i rfl (bP _) rfl (lit rfl) (lit rfl)
 | cls e m f r n i=>exact one (i:=8) (j:=0) i rfl (bP _) rfl (lit rfl) (lit rfl)
 | bin g p q n i1 i2=>exact ⟨i1.s.two i2.s (ac (lit rfl)),i1.c.two i2.c (aJ _ _)⟩
 | pick p q r n i1 i2 i3=>exact ⟨i1.s.three i2.s i3.s (ac (lit rfl)),i1.c.three i2.c i3.c (by show (xw p).c + ((xw q).c + (xw r).c)<=_;rw [<-Nat.add_assoc];exact aJ _ _)⟩
 | _=>exact ⟨lit rfl,lit rfl⟩
theorem la{α β:Type}{x y:List α}{x' y':List β}(h:x.length<=x'.length)(k:y.length<=y'.length):(x++y).length<=(x'++y').length:=by
 rw [List.length_append,List.length_append];exact eX h k
theorem PI{α β:Type}{x:List α}{x' y':List β}(h:x.length<=x'.length):x.length<=(x'++y').length:=List.length_append▸Nat.le_add_right_of_le h
theorem Oz(e:E):(aP e).length<=(dn e).length:=by
 have o:∀{α β:Type} {x:α} {y:List β} {z:β},[x].length<=(y++[z]).length:=List.length_append▸hX _ _
 induction e with
 | wr k e n i=>exact i
 | mem o c e n i=>exact PI i
 | idx o t e n i=>exact PI i
 | call w o k f p q m n i1 i2 i3=>
  cases k with
  | zero=>exact la i1 (bP _)
  | one s=>exact la i1 (PI i2)
  | two s t=>exact la i1 (PI (la i2 i3))
 | asg k t v n i1 i2=>exact la i1 (la i2 o)
 | un s e n i=>cases s with
  | del=>exact la i (aO 1)
  | _=>exact PI i
 | upd b t n i=>exact la i (aO 1)
 | bin g p q n i1 i2=>exact la i1 i2
 | pick p q r n i1 i2 i3=>exact la i1 (la i2 i3)
 | _=>exact bP _
structure Nn(f:Fx)(e:E):Prop where
 u:Ub f (ny e)
 p:dep e<=9
structure Inv(f0:Fx)(t:Nat)(f:Fx)(S:List E):Prop where
 gr:Gr (Nn f) (10 * t) f0 f
 tr:∀e∈S,Tr f e/\dep e<=9
 ct:Nw 0 [] (fa S []) f.next
 xd:fd S<=2 * t
section
variable{N M:E->Prop}{k j i t:Nat}{f f' f1 f0 g:Fx}{e x y z:E}{S S' A B:List E}
theorem Gr.imp(h:Gr N k f f')(q:∀t,N t->M t):Gr M k f f':={h with
 wr:=λx hx=>(h.wr x hx).imp_right λ⟨t,a,b⟩=>⟨t,q t a,b⟩
 cl:=λx hx=>(h.cl x hx).imp_right λ⟨t,a,b⟩=>⟨t,q t a,b⟩}
theorem Nn.mono(g:Gr N k f f')(h:Nn f e):Nn f' e:=⟨λp hp=>⟨ai (h.u p hp).1 g.le,(g.u _ (h.u p hp).1).trans (h.u p hp).2⟩,h.p⟩
theorem Gr.st(S:List E):Gr N 0 f (f.st S):={(Gr.refl:Gr N 0 f f)with z:=⟨aO _,aO _,aO _,aO _,aO _⟩}
theorem Gr.at(a b:Nat):Gr N 0 f (f.at a b):={(Gr.refl:Gr N 0 f f)with z:=⟨aO _,aO _,aO _,aO _,aO _⟩}
theorem yI(A B:List E):fa (A++B) []=fa A []++fa B []:=by
 induction A with
 | nil=>rfl
 | cons e A ih=>exact (congrArg (all e++·) ih).trans (cL ..).symm
theorem EX(A B:List E):fd (A++B)=fd A + fd B:=by
 induction A with
 | nil=>exact (Nat.zero_add _).symm
 | cons e A ih=>exact (congrArg ((dn e).length + ·) ih).trans (Nat.add_assoc ..).symm
theorem Mz(h:e∈S):(dn e).length<=fd S:=by
 induction S with
 | nil=>exact nomatch h
 | cons x S ih=>exact (List.mem_cons.mp h).elim (λq=>q▸aJ _ _) λq=>Nat.le_add_left_of_le (ih q)
theorem Nw.sub{lo hi:Nat}{l r:List Nat}(h:Nw lo [] l hi)(k:∀m,r.count m<=l.count m):Nw lo [] r hi:=⟨h.le,λm=>ai (k m) (h.a m),λm q=>ai (k m) (h.o m q)⟩
theorem Inv.put(I:Inv f0 t f (A++B))(h:Mk (·=x) 10 f f1 B x):Inv f0 (t + 1) f1 (A++[x]):=
 have c:Nw 0 [] (fa A []++fa B []) f.next:=yI A B▸I.ct
 ⟨(I.gr.imp λ_=>Nn.mono h.gr).trans (h.gr.imp λe q=>q▸⟨h.tr.u,h.xp⟩),
 λe he=>(List.mem_append.mp he).elim (λq=>⟨(I.tr e (cu _ q)).1.mono h.gr,(I.tr e (cu _ q)).2⟩) (bt (P:=λe=>Tr f1 e/\dep e<=9) ⟨h.tr,h.xp⟩ e),
 (yI A [x]).symm▸c.put ((h.ct).of λm=>congrArg (List.count m) (cY (all x))),
 (Al A x).symm▸ai (gN h.xd _) (by
  have q:=I.xd
  rw [EX]at q
  rw [Nat.add_right_comm,Nat.add_comm (fd B)]
  exact gN q 2)⟩
theorem Inv.drop(I:Inv f0 t f (A++B)):Inv f0 t f B:=⟨I.gr,λe he=>I.tr e (c6 _ he),I.ct.sub λm=>by rw [yI,List.count_append];exact hX _ _,ai (hX _ _) (EX A B▸I.xd)⟩
theorem Inv.on(I:Inv f0 t f S)(g:Gr (Nn f1) 0 f f1)(q:f1.next=f.next):Inv f0 t f1 S:=⟨(I.gr.imp λ_=>Nn.mono g).trans g,λe he=>⟨(I.tr e he).1.mono g,(I.tr e he).2⟩,q▸I.ct,I.xd⟩
theorem PF(F:Fr f)(h:Cf f x f1):Mk (·=x) 10 f f1 [] x:=by
 have o:Nw f.next [] [f.next + 1] (f.next + 1):=.one (cZ _) (aO _)
 cases h with
 | nm u=>exact ⟨(Gr.nm u).up (hX 1 9),.nm u F,o,bP _,aI rfl⟩
 | this=>exact ⟨.bn 1,⟨trivial,nofun,nofun⟩,o,bP _,aI rfl⟩
 | num b=>exact ⟨.bn 1,⟨trivial,nofun,nofun⟩,o,bP _,aI rfl⟩
theorem Inv.step(F:Fr f0)(I:Inv f0 t f S)(h:NX (f.st S) S f1 S'):Inv f0 (t + 1) f1 S':=by
 have J:=I.on (Gr.st S) rfl
 cases h with
 | @push x _ A _ h e l n=>
  have J:Inv f0 t (f.st S) (S++[]):=by rwa [cY]
  have P:=J.put (PF (J.gr.fr F) h)
  rw [e]at P
  exact P.drop
 | @join A B x _ e hB n h=>
  subst e
  exact J.put (Hj (J.gr.fr F) (λe he=>⟨(J.tr e (c6 _ he)).1,hB e he⟩) h)
structure F0(f:Fx):Prop where
 u:f.u=[]
 wr:f.wr=[]
 rd:f.rd=[]
 cl:f.cl=[]
 own:f.own=[]
theorem F0.fr(h:F0 f):Fr f:=λm _=>by rw [h.u];rfl
theorem Tr.UO(h:Tr f e):UO f.u e:=λp hp=>(h.u p hp).2
theorem W9{m d:Nat}(h:Wb m d)(q:d<=9):m < 98411:=Nat.lt_of_succ_le (Nat.le_of_add_le_add_right (b:=4) (ai (h.up q) (bY rfl)))
theorem Inv.sm(I:Inv f0 t f S)(ht:t<=31)(h:e∈S):(dn e).length<=62:=ai (Mz h) (ai I.xd (Nat.mul_le_mul_left 2 ht))
theorem Kb(h:(dn e).length<=62):Sm e:=⟨(nX e).len▸ai h (bY rfl),ai (Oz e) (ai h (bY rfl))⟩
theorem Inv.tn(I:Inv f0 t f S)(ht:t<=31)(h:e∈S):Tn f.u e:=⟨(I.tr e h).1.UO,Kb (I.sm ht h),cK (W9 (wp e).s (I.tr e h).2) (aI rfl)⟩
theorem Inv.tf(Z:F0 f0)(I:Inv f0 t f S)(ht:t<=31):Tf f:=by
 have z:∀{α:Type} {l:List α} {n:Nat},l=[]->n<=l.length + 10 * t->n < 1000000:=λe h=>bJ h (by rw [e];exact bJ (dB (Nat.mul_le_mul_left 10 ht) 0) (aI rfl))
 exact ⟨z Z.u I.gr.z.u,z Z.wr I.gr.z.wr,z Z.rd I.gr.z.rd,z Z.cl I.gr.z.cl,z Z.own I.gr.z.own⟩
end
section
variable{d m j:Nat}{f:Fx}{s:Vs}{k q:Int}{ks:List aa}{e:E}{S:List E}
theorem zP:(cl F.aX [W,.int k,aQ,.list ks,.int 0] (xo (f.nx j) s m) (nd k aQ ks 0 (j + 1),xo (f.nx (j + 1)) s (m + 2))).ok (d+1):=
 let b:=xo (f.nx (j + 1)) s m
 run [.g (Aa (h:=xo (f.nx j) s m) (k:=k) (fl:=0) (ks:=ks) (a:=aQ) rfl),.s 15 1,.a 15 (uI (c:=0) b (nk (.int k) aQ (.list ks) (.int 0) 0) bj (.int (j + 1:Nat)) rfl (aI rfl)),.a 12 (yB (h:=b) (c:=0) (kvs:=nk (.int k) aQ (.list ks) (.int 0) (j + 1:Nat)) λp hp=>nomatch hp)]
noncomputable def SV(l:List E):aa:=.list (l.map λe=>.int (bW e:Nat))
theorem Lx(l:List E):hG 3 (SV l)=true:=by
 show (l.map λe=>aa.int (bW e:Nat)).all (hG 2)=true
 induction l with
 | nil=>rfl
 | cons e l ih=>exact ih
noncomputable def U2(f:Fx)(s:Vs)(m:Nat)(e:aa):Nat->List aa->List aa->List (Fact (d+2))
 | i,[],rows=>[.g (zP (d:=d) (f:=f) (s:=s) (j:=f.next + i) (m:=m + 2 * i) (k:=50) (ks:=e::rows))]
 | i,x::xs,rows=>.g (zP (d:=d) (f:=f) (s:=s) (j:=f.next + i) (m:=m + 2 * i) (k:=51) (ks:=[x]))::U2 f s m e (i + 1) xs (rows++[nd 51 aQ [x] 0 (f.next + i + 1)])
noncomputable def Kk(S:List E)(j:Nat):List aa:=bif Nat.ble j S.length then (S.take j).map enc++aa.none::(S.drop j).map enc else S.map enc
noncomputable def Ww(f:Fx)(s:Vs)(m:Nat)(e:E)(S:List E)(j:Nat)(tab:List Nat):List (Fact (d+2)):=
 U2 f s m (enc e) 0 (Kk S j) []++tab.flatMap λt=>[.s 1 (t / 4),.q 1 (ne_self (Lx ((e::S).take (t % 4 + 1))))]
noncomputable def U9(f:Fx)(s:Vs)(m:Nat)(S:List E)(j:Nat):Hp:=xo (f.nx (f.next + (Kk S j).length + 1)) s (m + 2 * ((Kk S j).length + 1))
noncomputable def TA(f:Fx)(s:Vs)(m:Nat)(q:Int)(e:E)(S:List E)(j:Nat):Gl:=cl F.iq [W,.int q] (xo (f.st (e::S)) s m) (.bool true,U9 (f.st (e::S)) s m S j)
theorem yQ(hS:S.length<=3):∃j,(TA f s m q e S j).ok (d+2):=by
 let M:=λ(S:List E) (z:Int)=>arith eZ (.int q) (.int (S.length + 2))=some (.int z)
 let P:=λ(S:List E) (z:Int)=>M S z->∃j,(TA f s m q e S j).ok (d+2)
 let F:=λ(S:List E) (j:Nat) (t:List Nat) (h:M S j)=>Fact.w (d':=d+2) 7 h::Ww (d:=d) (f.st (e::S)) s m e S j t
 have R:∀S:List E,(∀j:Nat,j < S.length + 2->P S j)->(S.length + 2:Nat) < 1073741824->∃j,(TA f s m q e S j).ok (d+2):=λS p l=>eL (P:=P S) (S.length + 2) (Nat.succ_pos _) p q (b9 ⟨Int.ofNat_lt.mpr (Nat.succ_pos _),Int.ofNat_lt.mpr l⟩)
 match S,hS with
 | [],_=>exact R [] (dZ (dZ yi λh=>⟨0,run (F [] 0 [32,16,20] h)⟩) λh=>⟨1,run (F [] 1 [20] h)⟩) (aI rfl)
 | [a],_=>exact R [a] (dZ (dZ (dZ yi λh=>⟨0,run (F [a] 0 [65,37,45,45,37,41] h)⟩) λh=>⟨1,run (F [a] 1 [65,41,45,45,33,41] h)⟩) λh=>⟨2,run (F [a] 2 [53,37,41] h)⟩) (aI rfl)
 | [a,b],_=>exact R [a,b] (dZ (dZ (dZ (dZ yi λh=>⟨0,run (F [a,b] 0 [98,58,74,90,70,61,78,66,58,62] h)⟩) λh=>⟨1,run (F [a,b] 1 [98,65,74,90,70,54,70,66,58,62] h)⟩) λh=>⟨2,run (F [a,b] 2 [98,65,82,90,70,62,70,66,50,62] h)⟩) λh=>⟨3,run (F [a,b] 3 [86,61,78,66,58,62] h)⟩) (aI rfl)
 | [a,b,c],_=>exact R [a,b,c] (dZ (dZ (dZ (dZ (dZ yi λh=>⟨0,run (F [a,b,c] 0 [131,79,103,127,151,95,85,110,135,91,82,107,87,79,83] h)⟩) λh=>⟨1,run (F [a,b,c] 1 [131,89,103,127,151,95,75,99,123,91,82,107,87,79,83] h)⟩) λh=>⟨2,run (F [a,b,c] 2 [131,89,114,127,151,95,86,99,123,91,71,95,87,79,83] h)⟩) λh=>⟨3,run (F [a,b,c] 3 [131,89,114,139,151,95,86,111,123,91,83,95,87,67,83] h)⟩) λh=>⟨4,run (F [a,b,c] 4 [119,85,110,135,91,82,107,87,79,83] h)⟩) (aI rfl)
end
structure Fe(u own:List (Int×aa))(e:E):Prop where
 io:T9 u e
 nd:(all e).Nodup
 dp:dep e<=10
 o:∀F,h9 e=some F->cU own (bW F:Int)=some (qx (dn F))
 c:(xw e).c<=98411
structure Pe(f:Fx)(e:E):Prop where
 tr:Tr f e
 dp:dep e<=9
 nd:Nw 0 [] (all e) f.next
 dn:(dn e).length<=62
section
variable{d n t:Nat}{f f0:Fx}{s:Vs}{h:Hp}{e:E}{S S':List E}{a0 a1 a2 x4:aa}
noncomputable def lE(a0 a1 a2 x4 x5 x6:aa):Env:=[a0,a1,a2,W,x4,x5,x6,.undef,.undef]
inductive T6(d i:Nat)(xs:List aa)(env:Env)(h:Hp):Prop | mk (h':Hp):(fo i J7 xs env h (.bool true,h')).ok d->T6 d i xs env h
noncomputable def ND(d:Nat)(a0 a1 a2 x4:aa)(S:List E)(h:Hp):Prop:=∀x6,T6 (d+60) 13 (S.map ax) (lE a0 a1 a2 x4 AV x6) h
theorem Ff(st:Start f s h)(X:Cx f)(I:Fe f.u f.own e)(hm:s.met.length + 98411<=900000)(T:∀i j (s':Vs),s'.met.length<=s.met.length + 98411->ND d a0 a1 a2 x4 S (R1 (f.at i j) s')):ND d a0 a1 a2 x4 (e::S) h:=λx6=>by
 obtain ⟨m,_,r1⟩:=GY (d:=d+52) X.key st.hw I.io
 have st':Start f {s with n:=m} (h.up m):=by cases st with
  | r0=>exact .r0
  | r1=>exact .r1
 obtain ⟨i,j,s',m',_,r2,hs⟩:=KQ (d:=d+52) X st' I.io I.nd (ai (gN (Nat.mul_le_mul_left 4 I.dp) 8) (ai (bY rfl:48<=52) (ai (hX 52 d) (aJ _ 6)))) I.o (ai (dB I.c _) hm)
 obtain ⟨h',t⟩:=T i j {s' with n:=m'} (ai hs (dB I.c _)) (ax e)
 exact ⟨h',run [.g r1,.g r2,.l t]⟩
theorem MV(S:List E):∀{f:Fx} {s:Vs},Cx f->(∀e∈S,Fe f.u f.own e)->s.met.length + 98411 * S.length<=900000->(∀i j s',ND d a0 a1 a2 x4 [] (R1 (f.at i j) s'))->ND d a0 a1 a2 x4 S (R1 f s):=by
 induction S with
 | nil=>exact λ{f s} X F hm T=>T f.i8 f.i9 s
 | cons e S ih=>
  intro f s X F hm T
  have hm:s.met.length + 98411 + 98411 * S.length<=900000:=by
   rw [Nat.add_assoc,Nat.add_comm 98411];exact hm
  exact Ff .r1 X (F e aF) (ai (aJ _ _) hm) λi j s' hs=>ih ⟨X.key,X.nums,X.len⟩ (λx hx=>F x (bB _ hx)) (ai (gN hs _) hm) T
theorem NX.ok{f1:Fx}(h:NX f S f1 S')(hS:S.length<=4):S'.length<=4/\S'≠[]:=by
 cases h with
 | push h e l n=>exact ⟨l,n⟩
 | @join A B t _ e hB n h=>
  subst e
  exact ⟨ai (Nat.le_of_eq List.length_append) (ai (dB n _) (List.length_append▸hS)),by cases A <;> nofun⟩
noncomputable def FR(d:Nat)(a0 a1 a2:aa)(s:Vs)(l:List Nat)(f:Fx)(S:List E):Prop:=∀n x4,T6 (d+8) 9 (l.map λn=>.int (n:Nat)) (lE a0 a1 a2 x4 .undef .undef) (bh (f.st S) s [] n)
theorem CP(Z:F0 f0)(T:∀{t f S},t<=31->Inv f0 t f S->S.length<=4->S≠[]->FR d a0 a1 a2 s [] f S)(l:List Nat):∀{t f S},t + l.length<=31->Inv f0 t f S->S.length<=4->(l=[]->S≠[])->FR d a0 a1 a2 s l f S:=by
 induction l with
 | nil=>exact λht I hS hn=>T ht I hS (hn rfl)
 | cons q l ih=>
  intro t f S ht I hS _ n x4
  have h31:t<=31:=ai (aJ _ _) ht
  obtain ⟨f1,S1,n1,_,st,r⟩:=GA (d:=d) (s:=s) (D:=[]) (n:=n) (λp hp=>nomatch hp) (I.tf Z h31) hS (λe he=>I.tn h31 he) (q:Int)
  have o:=st.ok hS
  obtain ⟨h',t'⟩:=ih (ai (Nat.le_of_eq (Nat.succ_add t l.length)) ht) (I.step Z.fr st) o.1 (λ_=>o.2) n1 (.int q)
  exact ⟨h',run [.g r,.l t']⟩
theorem Pe.on(h:Pe f e)(i:Nat):Pe (bn f i) e:=⟨h.tr.mono (Gr.bn (N:=λ_=>True) (k:=0) i),h.dp,h.nd.up (aJ _ _),h.dn⟩
theorem Pe.vJ(h:Pe f e):Fe f.u f.own (aU f.next e):=
 have k:Kd (λ_=>True) 0 f (bn f (dC e)) e [] 10 (aU f.next e):=(Kd.src h.tr h.dp).vJ
 have w:=wp (aU f.next e)
 ⟨⟨⟨λp hp=>(k.tr.u p hp).2,bJ (zu _ e) (cK (Nat.succ_lt_succ (W9 (wp e).s h.dp)) (aI rfl))⟩,k.tr.w,bJ (ai k.xd h.dn) (aI rfl)⟩,
 (Nw.put (a:=[]) h.nd (k.ct.of λm=>congrArg (List.count m) (cY _).symm)).nodup,k.xp,λF hF=>(k.tr.o F hF).2,by
  unfold aU
  cases gB e <;> exact Nat.le_of_lt (W9 (wp e).c h.dp)⟩
noncomputable abbrev Ur:ME:=.call F.fx [(.v 3),(.v 8)]
inductive Ve(d:Nat)(s:Vs)(env:Env)(f:Fx)(n:Nat)(S:List E):Prop
 | mk (k:Nat) (S':List E) (n':Nat):dy (ov (aM pg (d+4)) (.v 8) none Ur env) (S.map ax) (bh f s [] n)=some (S'.map ax,bh (bn f k) s [] n')->(∀e∈S',Fe f.u f.own e)->S'.length=S.length->Ve d s env f n S
theorem C8(S:List E):∀{f:Fx} {n:Nat},(∀e∈S,Pe f e)->Ve d s (lE a0 a1 a2 x4 .undef .undef) f n S:=by
 induction S with
 | nil=>exact λ{f n} _=>⟨0,[],n,rfl,nofun,rfl⟩
 | cons e S ih=>
  intro f n h
  have p:=h e aF
  obtain ⟨k,S',n',r,F,l⟩:=ih (f:=bn f (dC e)) (n:=iR n e) λx hx=>(h x (bB _ hx)).on _
  have one:=run (d:=d+4) (G:=ex 0 Ur ((lE a0 a1 a2 x4 .undef .undef).set 8 (ax e)) (bh f s [] n) (ax (aU f.next e),bh (bn f (dC e)) s [] (iR n e))) [.g (jo (d:=d) (f:=f) (s:=s) (D:=[]) (n:=n) (λp hp=>nomatch hp) (Kb p.dn))]
  refine ⟨dC e + k,aU f.next e::S',n',bL (a:=some (ax (aU f.next e))) ?_ (bL r ?_),λx hx=>(List.mem_cons.mp hx).elim (λe=>e▸p.vJ) (F x),congrArg Nat.succ l⟩
  ·exact bL one rfl
  ·exact congrArg (λj=>some (ax (aU f.next e)::S'.map ax,bh (f.nx j) s [] n')) (Nat.add_assoc _ _ _)
end
theorem OP{xs:List aa}{k:Nat}(hl:xs.length < LF)(h:Hp):eK h (.list xs) .none (.int k)=some (.list (xs.take k)):=
 (gU hl).trans (congrArg (λl=>some (aa.list l)) (by
  show (xs.drop 0).take (fK xs.length k - 0)=_
  unfold fK
  rw [if_neg (Int.not_lt.mpr (Int.natCast_nonneg k))]
  exact (List.take_eq_take_min).symm))
theorem zD{xs:List aa}{k:Nat}(hl:xs.length < LF)(h:Hp):eK h (.list xs) (.int k) .none=some (.list (xs.drop k)):=
 (gU hl).trans (congrArg (λl=>some (aa.list l)) (by
  show (xs.drop (fK xs.length k)).take (xs.length - fK xs.length k)=_
  rw [List.take_of_length_le (Nat.le_of_eq List.length_drop)]
  unfold fK
  rw [if_neg (Int.not_lt.mpr (Int.natCast_nonneg k))]
  show xs.drop (min k xs.length)=_
  by_cases q:k<=xs.length
  ·rw [Nat.min_eq_left q]
  ·rw [Nat.min_eq_right (Nat.le_of_not_le q),List.drop_length,List.drop_eq_nil_of_le (Nat.le_of_not_le q)]))
noncomputable abbrev EV:List Nat:=[0,0,2,1,5]
noncomputable def natsL(l:List Nat):List aa:=l.map λn=>.int (n:Nat)
noncomputable def sO(ns:List Int):List Nat:=(ns.take 32).map (λn=>(n % 1048576).toNat)++EV.drop (ns.take 32).length
theorem G9(ns:List Int):((ns.take 32).map λn=>aa.int (n % 1048576))++(natsL EV).drop (ns.take 32).length=natsL (sO ns):=by
 unfold sO natsL
 rw [List.map_append,List.map_map,List.map_drop]
 exact congrArg (·++_) (List.map_congr_left λn _=>congrArg aa.int (Int.toNat_of_nonneg (Int.emod_nonneg n (by decide))).symm)
noncomputable def Jx:aa:=.tup [.tup [.str jy],.tup [.str jy,.str fE],.tup [.str jy,.str fE,.str ou],.tup [.str gY,.str fE],.tup [.str mG,.str ou]]
theorem LR(i:Int):∃k∈keys,∀h,aY h Jx (.int (i % 5))=some (b7 k):=
 eL (P:=λj=>∃k∈keys,∀h,aY h Jx (.int j)=some (b7 k)) 5 (aI rfl) (dZ (dZ (dZ (dZ (dZ yi ⟨(.s1,[]),.head _,λh=>rfl⟩) ⟨(.s1,[.a]),.tail _ (.head _),λh=>rfl⟩) ⟨(.s1,[.a,.b]),.tail _ (.tail _ (.head _)),λh=>rfl⟩) ⟨(.this,[.a]),.tail _ (.tail _ (.tail _ (.head _))),λh=>rfl⟩) ⟨(.s2,[.b]),.tail _ (.tail _ (.tail _ (.tail _ (.head _)))),λh=>rfl⟩) i
noncomputable def Qi:aa:=.list [.sd [],.sd [(fE,.int 1)],.sd [],.sd [(ou,.int 1)],.sd [(fE,.int 1),(ou,.int 1)],.sd []]
theorem Mf(i:Int):∃k:Hid,∀h,aY h Qi (.int (i % 6))=some k.enc:=
 eL (P:=λj=>∃k:Hid,∀h,aY h Qi (.int j)=some k.enc) 6 (aI rfl) (dZ (dZ (dZ (dZ (dZ (dZ yi ⟨.o,λh=>rfl⟩) ⟨.a,λh=>rfl⟩) ⟨.o,λh=>rfl⟩) ⟨.b,λh=>rfl⟩) ⟨.ab,λh=>rfl⟩) ⟨.o,λh=>rfl⟩) i
noncomputable def Sn:aa:=.tup [.tup [.str mH,.int 0],.tup [.str mH,.int 1],.tup [.str mH,.int 2],.tup [.str F8,.int 0],.tup [.str pj,.int 0],.tup [.str jW,.int 0],.tup [.str jW,.int 1]]
noncomputable def IS(j:Int):Prop:=∃v:V,∀h,aY h Sn (.int j)=some v.enc
theorem CO:∀j:Nat,j < 4->IS j:=dZ (dZ (dZ (dZ yi ⟨.o .i0,λh=>rfl⟩) ⟨.o .i1,λh=>rfl⟩) ⟨.o .i2,λh=>rfl⟩) ⟨.n,λh=>rfl⟩
noncomputable def Wo(ns:List Nat)(k:Path)(H:Hid)(v:V):Fx:={nums:=ns,next:=0,u:=[],stack:=.list [],rd:=[],wr:=[],cl:=[],own:=[],key:=k,gK:=H,vt:=v,i8:=0,i9:=0}
noncomputable def Vw(v w:V):Vs:={n:=11,roll:=0,r1:=v,r2:=w,o0:=.e2 .a (.o .i1) (.k 0),o1:=.e2 .a (.k 1) (.o .i2),o2:=.e2 .a .n (.u false),met:=[],off:=.z,done:=[],bl:=[]}
theorem Tq{f:Fx}(h:f.next=0):Inv f 0 f []:=⟨.refl,nofun,⟨bP _,λm=>bP _,λm _=>aO _⟩,aO _⟩
theorem yj{α:Type}{l:List aa}{g:α->aa}{P:α->Prop}(h:∀x∈l,∃e,x=g e/\P e):∃ws:List α,l=ws.map g/\∀e∈ws,P e:=by
 induction l with
 | nil=>exact ⟨[],rfl,nofun⟩
 | cons x l ih=>
  obtain ⟨e,q,p⟩:=h x aF
  obtain ⟨ws,q2,p2⟩:=ih λy hy=>h y (bB _ hy)
  exact ⟨e::ws,q▸q2▸rfl,λy hy=>(List.mem_cons.mp hy).elim (λk=>k▸p) (p2 y)⟩
theorem MA{e:E}{S:List E}(h:e∈S)(m:Nat):(all e).count m<=(fa S []).count m:=by
 induction S with
 | nil=>exact nomatch h
 | cons x S ih=>
  show _<=(all x++fa S []).count m
  rw [List.count_append]
  exact (List.mem_cons.mp h).elim (λq=>q▸aJ _ _) λq=>Nat.le_add_left_of_le (ih q)
theorem Nn.ok{f:Fx}{e:E}(h:Nn f e):Ok f.u e:=⟨λp hp=>(h.u p hp).2,cK (W9 (wp e).s h.p) (aI rfl)⟩
theorem FG{d:Nat}{h:Hp}:(cl F.rN [.af (h.n + 1),.none,U] (hn h 1 []) (.none,hn h 1 [(pn,.none),(cc,U),(jA,.sd []),(mF,.int 0),(mI,.int 0)])).ok d:=
 let S:=λi x=>uI (c:=1) h (([(pn,.none),(cc,U),(jA,.sd []),(mF,.int 0),(mI,.int 0)]:List (Sx×aa)).take i) x
 run [.a 15 (S 0 pn .none rfl (aI rfl)),.a 15 (S 1 cc U rfl (aI rfl)),.a 15 (S 2 jA (.sd []) rfl (aI rfl)),.a 15 (S 3 mF (.int 0) rfl (aI rfl)),.a 15 (S 4 mI (.int 0) rfl (aI rfl))]
section
variable{d n t:Nat}{f f0 g:Fx}{s:Vs}{e:E}{S:List E}{a0 a1 x4:aa}{q:Int}
theorem MF(Z:F0 f0)(X:f.key∈keys)(G:Gr (Nn f) t f0 f)(hS:S.length<=3):ND d a0 a1 (.int q) x4 [] (R1 (f.st (e::S)) s):=λx6=>by
 have old:∀{l l':List aa} {P:aa->Prop},l=[]->(∀x∈l',x∈l\/P x)->∀x∈l',P x:=λh k x hx=>(k x hx).elim (λq=>nomatch (h▸q:x∈[])) id
 obtain ⟨ws,w1,w2⟩:=yj (old Z.wr G.wr |> λh x hx=>let ⟨t,a,b,c⟩:=h x hx;(⟨t,b,a.ok,c⟩:∃e,x=bq e/\Ok f.u e/\lC e))
 obtain ⟨cs,c1,c2⟩:=yj (old Z.cl G.cl |> λh x hx=>let ⟨t,a,b,c⟩:=h x hx;(⟨t,b,a.ok,c⟩:∃e,x=nY e/\Ok f.u e/\BA e=true))
 obtain ⟨rs,r1,r2⟩:=yj (old Z.rd G.rd)
 obtain ⟨m,e1⟩:=DN (d:=d+50) (f:=f.st (e::S)) (s:=s) X ws rs cs w1 r1 c1 w2 r2 c2 s.n
 obtain ⟨j,e2⟩:=yQ (d:=d+57) (f:=f) (s:=s) (m:=m) (q:=q / 48) (e:=e) hS
 exact ⟨U9 (f.st (e::S)) s m S j,run [.g e1,.w 7 (gz (i:=q) (j:=48) (by decide)),.g e2]⟩
theorem LB(Z:F0 f0)(X:Cx f0)(hm:s.met=[]){t:Nat}(ht:t<=31)(I:Inv f0 t f S)(hS:S.length<=4)(hn:S≠[]):FR (d+52) a0 a1 (.int q) s [] f S:=λn x4=>by
 have J:=I.on (Gr.st S) rfl
 obtain ⟨k,S',n',r,F,l⟩:=C8 (d:=d+56) (s:=s) (a0:=a0) (a1:=a1) (a2:=.int q) (x4:=x4) S (f:=f.st S) (n:=n) λe he=>⟨(J.tr e he).1,(J.tr e he).2,J.ct.sub λm=>MA he m,J.sm ht he⟩
 match S',l,r,F with
 | [],l,_,_=>exact (hn (List.eq_nil_of_length_eq_zero l.symm)).elim
 | e::T,l,r,F=>
  let g:Fx:=bn f k
  have gk:Gr (Nn g) (10 * t + 0) f0 g:=(I.gr.imp λ_=>Nn.mono (Gr.bn (N:=λ_=>True) (k:=0) k)).trans (.bn k)
  have X':Cx (g.st (e::T)):=⟨gk.key▸X.key,gk.nums▸X.nums,gk.nums▸X.len⟩
  have hT:T.length + 1<=4:=ai (Nat.le_of_eq l) hS
  let s2:Vs:={s with n:=n' + 2}
  have T13:∀i j s',ND d a0 a1 (.int q) x4 [] (R1 ((g.st (e::T)).at i j) s'):=λi j s'=>MF (t:=10 * t + 0 + 0) (f:=g.at i j) Z X'.key ((gk.imp λ_=>Nn.mono (Gr.at (N:=λ_=>True) i j)).trans (.at i j)) (Nat.le_of_succ_le_succ hT)
  have c13:ND d a0 a1 (.int q) x4 (e::T) (R0 (g.st (e::T)) s2):=Ff .r0 X' (F e aF) (by rw [show s2.met=[]from hm];exact bY rfl) λi j s' hs=>MV T ⟨X'.key,X'.nums,X'.len⟩ (λx hx=>F x (bB _ hx)) (by
   rw [show s2.met=[]from hm]at hs
   exact ai (eX hs (Nat.mul_le_mul_left 98411 (Nat.le_of_succ_le_succ hT))) (bY rfl)) T13
  obtain ⟨h',t13⟩:=c13 .undef
  exact ⟨h',run [.n (d8 (f:=ax) (nA hS rfl)),.m r,.g (FG (d:=d+59) (h:=bh (g.st (e::T)) s [] n')),.a 12 (yB (h:=bh (g.st (e::T)) s [] n') (c:=1) (kvs:=[(pn,.none),(cc,U),(jA,.sd []),(mF,.int 0),(mI,.int 0)]) λp hp=>nomatch hp),.l t13]⟩
theorem LM(ns:List Int)(hl:ns.length<=63):∃hp',aM pg 100 F.PH [.list (ns.map .int)] ⟨List.replicate 13 none,[],0⟩=some (.bool true,hp'):=by
 let l:=ns.take 32
 have ll:l.length<=32:=List.length_take_le 32 ns
 have NE:=G9 ns
 have L:5<=(sO ns).length/\(sO ns).length<=32:=by
  unfold sO
  rw [List.length_append,List.length_map,List.length_drop]
  show 5<=l.length + (5 - l.length)/\l.length + (5 - l.length)<=32
  omega
 revert NE L
 generalize sO ns=N
 match N with
 | []=>exact λ_ L=>absurd L.1 (by decide)
 | [_]=>exact λ_ L=>(Nat.not_succ_le_zero _ (Nat.le_of_succ_le_succ L.1)).elim
 | h0::h1::rest=>
 intro NE L
 have L32:rest.length + 2<=32:=L.2
 let q:Int:=h0
 obtain ⟨k,hk,e6⟩:=LR (q / 144)
 obtain ⟨H,e7⟩:=Mf (q / 720)
 obtain ⟨v1,e81⟩:=eL (P:=IS) 4 (aI rfl) CO q
 obtain ⟨v2,e82⟩:=eL (P:=IS) 4 (aI rfl) CO (q / 4)
 obtain ⟨v3,e83⟩:=eL (P:=IS) 3 (aI rfl) (λj h=>CO j (Nat.lt_succ_of_lt h)) (q / 16)
 let a0:aa:=.list (l.map .int)
 let a1:aa:=.list (natsL (h0::h1::rest))
 let f0:=Wo (h0::h1::rest) k H v3
 let s0:=Vw v1 v2
 have Z:F0 f0:=⟨rfl,rfl,rfl,rfl,rfl⟩
 have X:Cx f0:=⟨hk,nofun,bJ L32 (aI rfl)⟩
 obtain ⟨h',r⟩:=CP (d:=91) (s:=s0) (a0:=a0) (a1:=a1) (a2:=.int h0) Z (λht I hS hn=>LB (d:=39) Z X rfl ht I hS hn) (h1::rest) (t:=0) (S:=[]) (by rw [Nat.zero_add];exact Nat.le_of_succ_le_succ L32) (Tq (f:=f0) rfl) (bP _) nofun 11 .undef
 have n1:(ns.map aa.int).length < LF:=d8 (nA hl rfl)
 have n2:(l.map aa.int).length < LF:=d8 (nA ll rfl)
 have n3:(l.map λn=>aa.int (n % 1048576)).length < LF:=d8 (nA ll rfl)
 have n4:(natsL (h0::h1::rest)).length < LF:=d8 (nA L32 rfl)
 have e0:(l.map λn=>aa.int (n % 1048576)).length=l.length:=List.length_map _
 have n5:(l.map λn=>aa.int (n % 1048576)).length + ((natsL EV).drop l.length).length < LF:=by
  rw [e0,List.length_drop]
  exact bJ (eX ll (Nat.sub_le 5 _)) (aI rfl)
 have tk:∀h,eK h (.list (ns.map .int)) .none (.int 32)=some a0:=λh=>(OP (k:=32) n1 h).trans (congrArg (λl=>some (aa.list l)) List.map_take.symm)
 have ln:∀h,tw h .len (.list (l.map λn=>aa.int (n % 1048576)))=some (.int l.length):=λh=>(len_list n3 h).trans (by rw [e0])
 have ad:Cd .f (.list (l.map λn=>aa.int (n % 1048576))) (.list ((natsL EV).drop l.length)) ⟨List.replicate 13 none,[],0⟩=some (a1,⟨List.replicate 13 none,[],0⟩):=(congrFun (ql n5) _).trans (by rw [NE];rfl)
 exact ⟨h',run (d:=99) (G:=cl F.PH [.list (ns.map .int)] ⟨List.replicate 13 none,[],0⟩ (.bool true,h')) [.v 5 tk,.n n2,
  .m (comp_map ⟨List.replicate 13 none,[],0⟩ (f:=ov (aM pg 99) (.v 7) none (.mod (.v 7) (.c (.int 1048576))) [a0,.undef,.undef,.undef,.undef,.undef,.undef,.undef,.undef]) (en:=aa.int) (g:=λn=>aa.int (n % 1048576)) l λx _=>jf (env':=[a0,.undef,.undef,.undef,.undef,.undef,.undef,.int x,.undef]) rfl (run (d:=99) (G:=ex 0 (.mod (.v 7) (.c (.int 1048576))) [a0,.undef,.undef,.undef,.undef,.undef,.undef,.int x,.undef] ⟨List.replicate 13 none,[],0⟩ (.int (x % 1048576),⟨List.replicate 13 none,[],0⟩)) [.w 7 (b9 (i:=x) (j:=1048576) (by decide))])),
  .v 4 ln,.v 5 (zD (xs:=natsL EV) (k:=l.length) (aI rfl)),.a 2 ad,.s 0 1,.w 7 (gz (i:=q) (j:=144) (by decide)),.w 7 (b9 (i:=q / 144) (j:=5) (by decide)),.v 0 e6,.w 7 (gz (i:=q) (j:=720) (by decide)),.w 7 (b9 (i:=q / 720) (j:=6) (by decide)),.v 0 e7,
  .w 7 (b9 (i:=q) (j:=4) (by decide)),.v 0 e81,.w 7 (gz (i:=q) (j:=4) (by decide)),.w 7 (b9 (i:=q / 4) (j:=4) (by decide)),.v 0 e82,.w 7 (gz (i:=q) (j:=16) (by decide)),.w 7 (b9 (i:=q / 16) (j:=3) (by decide)),.v 0 e83,
  .v 5 (zD (xs:=natsL (h0::h1::rest)) (k:=1) n4),.l r]⟩
end
end Mn.Q
end
section
open PySem PySem.W PyProof.Rows
set_option genInjectivity false
set_option maxRecDepth 100000
namespace Mn
set_option autoImplicit true
noncomputable def WH:Nat->Addr
 | 0=>38
 | _=>279
noncomputable def Ws:List Addr:=[35,49,56,63,70,77,84,91,187,194,199,213,227,241,290,298,305,310,317,322,327,334,341,348,355,360,367,372,379,392,409,416,423,430,437,444,451,458,465,472,479,486,493,498,505,512,517,522,529,536,543,550,557,564,571,578,585,592,599,606,613,620,627,634,639,644,649,654,659,664,669]
noncomputable def RL(f:Nat):Addr:=Ws.getD f 0
noncomputable def cx(prog:Program)(w:World)(h0:Heap):Cx:=⟨prog,w,WH,RL,H.Kf w.params,h0,pg⟩
section
variable{prog:Program}{w:World}{h0:Heap}{d:Nat}{A:Around}{C:jj}
theorem WJ(X:eW (cx prog w h0))(hr:lF d A)(hC:fc (cx prog w h0) C d):(List.range 71).all (λf=>match td[f]?,uQ[f]? with
 | some fn,some vs=>(cF X hr hC (RL f) fn vs).b
 | _,_=>false)=true:=by kernel_rfl
end
theorem tabs{f:Nat}{fn:Fn}(h:td[f]?=some fn)(hb:(List.range 71).all (λf=>match td[f]?,uQ[f]? with
 | some _,some _=>true
 | _,_=>false)=true):∃vs,uQ[f]?=some vs:=by
 have e:=List.all_eq_true.mp hb f (List.mem_range.mpr (List.getElem?_eq_some_iff.mp h).1)
 rw [h]at e
 cases e2:uQ[f]? with
 | none=>rw [e2]at e;cases e
 | some vs=>exact ⟨vs,rfl⟩
theorem Mu(prog:Program)(w:World)(h0:Heap):FU (cx prog w h0):=λf fn h=>by
 have hlt:f < 71:=(List.getElem?_eq_some_iff.mp (show td[f]?=some fn from h)).1
 obtain ⟨vs,e2⟩:=tabs h (by kernel_rfl)
 refine ⟨vs,λd A C X hr hC=>?_⟩
 have e3:=List.all_eq_true.mp (WJ X hr hC) f (List.mem_range.mpr hlt)
 rw [show td[f]?=some fn from h,e2]at e3
 exact Ck.get e3
noncomputable def QU{Ω:Cx}(C:Addr)(fs:List Sx)(fI:Addr):Ck (FV Ω C fs fI):=
 .aH (findIn Ω.K (.ref C) "__getattribute__"==some (some (.builtin "object.__getattribute__"))) λe1=>.aH (findIn Ω.K (.ref C) "__getattr__"==some none) λe2=>match e3:clsIn Ω.K C with
 | some cd=>.aH cd.hasDict λe3'=>.aH (fs.all λn=>findIn Ω.K (.ref C) (toS n)==some none&& !copiedNames.contains (toS n)) λe4=>.aH (findIn Ω.K (.ref C) "__setattr__"==some (some (.builtin "object.__setattr__"))) λe5=>.aH (plainOver Ω.K C) λe6=>.aH (makesIn Ω.K C) λe7=>
  .aH (findIn Ω.K (.ref C) "__init__"==some (some (.ref fI))) λe8=>.aH (typeIn Ω.K (.ref fI)==some (.type "function")) λe9=>.y
  ⟨beq_iff_eq.mp e1,beq_iff_eq.mp e2,⟨cd,e3,e3'⟩,λn hn=>have k:=mQ (List.all_eq_true.mp e4 n hn);⟨beq_iff_eq.mp k.1,oH k.2⟩,beq_iff_eq.mp e5,e6,e7,beq_iff_eq.mp e8,beq_iff_eq.mp e9⟩
 | none=>.n
section
variable{prog:Program}{w:World}{h0:Heap}
theorem QW:(QU (Ω:=cx prog w h0) 38 (o4 0) 35).b=true:=by kernel_rfl
theorem QV:(QU (Ω:=cx prog w h0) 279 (o4 1) 213).b=true:=by kernel_rfl
noncomputable def Jp{Ω:Cx}(C:Addr)(n:Sx)(f:Addr):Ck (findIn Ω.K (.ref C) (toS n)=some (some (.ref f))/\typeIn Ω.K (.ref f)=some (.type "function")/\keepIn Ω.K (.ref f)=true):=
 .aH (findIn Ω.K (.ref C) (toS n)==some (some (.ref f))) λe1=>.aH (typeIn Ω.K (.ref f)==some (.type "function")) λe2=>.aH (keepIn Ω.K (.ref f)) λe3=>.y ⟨beq_iff_eq.mp e1,beq_iff_eq.mp e2,e3⟩
theorem Pz:(Jp (Ω:=cx prog w h0) 279 kz 227).b=true:=by kernel_rfl
theorem Py:(Jp (Ω:=cx prog w h0) 279 iw 241).b=true:=by kernel_rfl
theorem MR:eW (cx prog w h0):=λc=>match c with
 | 0=>⟨λ_=>⟨_,rfl,Ck.get QW⟩,λf h=>ay h▸Ck.get QW,λn f h=>nomatch h⟩
 | 1=>⟨λ_=>⟨_,rfl,Ck.get QV⟩,λf h=>ay h▸Ck.get QV,λn f h=>by
   have nf:pg.fields 1≠[]:=λq=>nomatch q
   have h:(if n=kz then some F.jL else if n=iw then some F.iD else none)=some f:=h
   by_cases e:n=kz
   ·rw [if_pos e]at h;rw [e,<-ay h];exact have m:=Ck.get (Pz (prog:=prog) (w:=w) (h0:=h0));⟨m.1,m.2.1,nf,m.2.2⟩
   ·rw [if_neg e]at h
    refine kH h λe h=>?_
    rw [e,<-ay h];exact have m:=Ck.get (Py (prog:=prog) (w:=w) (h0:=h0));⟨m.1,m.2.1,nf,m.2.2⟩⟩
 | c + 2=>⟨λh=>(h rfl).elim,⟨λf h=>(nomatch (show (none:Option Nat)=some f from h)),λn f h=>by
   have nc:¬(c + 2=1):=λq=>nomatch Nat.succ.inj q
   have h2:(if c + 2=1 then (if n=kz then some F.jL else if n=iw then some F.iD else none)else none)=(none:Option Nat):=if_neg nc
   exact nomatch h2.symm.trans (show pg.mB (c + 2) n=some f from h)⟩⟩
theorem Mg(p:Params):((H.Kf p).lookup 669).isSome=true:=by kernel_rfl
theorem PG(p:Params):nq (H.Kf p) mainGlobals "law"=some (some (.ref (RL F.PH))):=by kernel_rfl
end
noncomputable def oU:Hp:=⟨List.replicate 13 none,[],0⟩
noncomputable def AE:Prop:=∀ns:List Int,ns.length<=63->∃hp',aM pg 100 F.PH [.list (ns.map .int)] oU=some (.bool true,hp')
theorem uH{l:aa}{ob:ak}(h:oU.get l=some ob):False:=by
 refine js (P:=λ_=>False) h (λk id e=>?_) λid e=>nomatch e
 have e:=(List.mem_replicate.mp (List.mem_of_getElem? e)).2
 cases e
theorem GV{prog:Program}{w:World}(L:AE){s:Shared}{mg mb:PySem.Str->Option Value}(KX:(H.Kf w.params).In s.heap)(nl:s.heap.NoLimit)(hg:s.heap.Ns mainGlobals mg)(hb:s.heap.Ns builtinsNs mb)(hbn:∀x:PySem.Str,x≠"__name__"->mb x=bootBuiltins x)
  {fa a:Addr} (hm:mg "law"=some (.ref fa)) {vs:List Value} {ns:List Int} (hl:s.heap.IsList a vs.toArray) (hi:IntsAre vs ns) (hn:ns.length<=63) {R:Result->Shared->Prop}
  (q:∀h' tk,(∀b o,s.heap.get? b=some o->h'.get? b=some o)->R (.ok (.ret (.bool true))) {s with heap:=h',toks:=tk}):
  codeAny (model prog w) callerA (.call (.ref fa) {pos:=[.ref a]}) R s:=by
 have hfa:fa=RL F.PH:=Value.ref.inj (ay (hm.symm.trans (mg_of KX hg (qw .. ▸PG w.params))))
 subst hfa
 have sys:∃a o,sysModules < a/\s.heap.get? a=some o:=by
  cases e:(H.Kf w.params).lookup 669 with
  | none=>have:=Mg w.params;rw [e]at this;cases this
  | some o=>exact ⟨669,o,by decide,KX _ _ e⟩
 obtain ⟨hp',e⟩:=L ns hn
 let t:Wl (cx prog w s.heap) (λ_ _=>False) oU s:={
  Φ:=EF s.heap,σ:=λ_=>none,B:={lG:=KX,nolimit:=nl,glob:=⟨mg,hg⟩,U7:=⟨mb,hb,hbn⟩,sys:=sys},g:=.refl
  S:={fz:=.refl,kp:=λ_ _ e=>e.elim,sep:=λb _ k=>k.elim λ_ e=>e,obj:=λl ob e=>(uH e).elim,apart:=λl ob a e=>(uH e).elim,inj:=λl l' ob ob' a e=>(uH e).elim,fresh:=λ_ _ _ _=>rfl}}
 obtain ⟨o,ho,hc,n,hd⟩:=hl
 refine Fh (MR (prog:=prog) (w:=w) (h0:=s.heap)) (Mu prog w s.heap) 100 (A:=callerA) ⟨rfl,by decide +kernel,by decide +kernel⟩ t (vs:=[.ref a]) (.cons (.list ho hc hd (fT.ofInts hi)) .nil) _ hp' e (λ_ _=>True) (λv s'=>R (.ok (.ret v)) s') (λv s' t' l V=>?_) R λv s' k=>k
 obtain ⟨h',tk,rfl⟩:=l.d
 exact V.uY rfl (P:=λv=>R (.ok (.ret v)) _) (q h' tk λb o e=>t'.S.fz b o (l.l b o e))
end Mn
end
section
open PySem PySem.W PyProof.Rows
set_option maxRecDepth 100000
set_option maxHeartbeats 8000000
theorem Mn.fin(L:Mn.AE):PySem.Challenge.rw_sj0091_01.Holds:=H.top (by
 intro w s₀ s₁ mg mb G Y fa o pm cd doc dV kV ho hd hcd hD hmg hg args vals as hpre hlay hrd hwl hlo
 have KX:=Mn.H.in_of Y
 refine Ground.open G ?_
 intro T B D TE TW
 wrow_args hpre hlay hrd hwl hlo
 all_goals (first | refine callC_kw (enter_call ?_) | refine enter_call ?_ | refine callC_kw (enter_callW ?_) | refine enter_callW ?_ | w_how)
 w_top on
 refine codeAny_mono ?_ (λ_ _ g=>GoodW.toG g)
 rename IntsAre _ _=>hI
 rename Heap.IsList _ _ _=>hL
 refine Mn.GV L KX T.nolimit T.g T.b T.builtins hmg hL hI (by omega) λh' tk k=>?_
 refine ⟨.inl ⟨.bool true,.bool true,[],rfl,?_,.bool true,?_,unshared_nil⟩,k,rfl,hg⟩
 ·intro cls
  first | rfl | (cases cls <;> rfl) | kernel_rfl
 ·first | rfl | kernel_rfl)
end
section
theorem Mn.whole:PySem.Challenge.rw_sj0091_01.Holds:=Mn.fin λns h=>Mn.Q.LM ns h
end
theorem PySem.Challenge.cw_sj0091_01_holds : PySem.Challenge.rw_sj0091_01.Holds :=
 Mn.whole
