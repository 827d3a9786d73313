import PyProof.Rows.All
import PyProof.DictRoadsH
import OpenK.KLine
import Lean
import PySem.Challenge.RW_xm0339_01
set_option Elab.async false
set_option maxRecDepth 100000
set_option genSizeOfSpec false
set_option genInjectivity false
set_option linter.all false
set_option genSizeOf false
set_option bootstrap.genMatcherCode false
open PySem PySem.W PyProof.Rows PySem.Calls
namespace Mine
noncomputable abbrev Qa:=@Int.le_refl
noncomputable abbrev Qb:=@List.length_append
noncomputable abbrev Qc:=@List.getElem?_eq_some_iff
noncomputable abbrev Qd:=@Nat.le_refl
noncomputable abbrev Qe:=@List.mem_cons_self
noncomputable abbrev Qf:=@Nat.le_trans
noncomputable abbrev Qg:=@List.mem_cons_of_mem
noncomputable abbrev Qh:=@PySem.W.Fast.te14364793385576792824
noncomputable abbrev Qi:=@PySem.W.Fast.te10110043849684766642
noncomputable abbrev Qj:=@List.getElem?_eq_getElem
noncomputable abbrev Qk:=@List.mem_singleton
noncomputable abbrev Ql:=@Option.some.inj
noncomputable abbrev Qn:=@Nat.le_succ
noncomputable abbrev Qo:=@List.size_toArray
noncomputable abbrev Qp:=@List.getElem?_append_left
noncomputable abbrev Qq:=@Bool.and_eq_true_iff
noncomputable abbrev Qr:=@List.length_map
noncomputable abbrev Qs:=@Nat.blt_eq
noncomputable abbrev Qt:=@List.mem_cons
noncomputable abbrev Qu:=@List.length_singleton
noncomputable abbrev Qv:=@Nat.succ_le_succ
noncomputable abbrev Qw:=@Nat.le_add_right
noncomputable abbrev Qx:=@List.getElem?_concat_length
noncomputable abbrev Qy:=@Nat.eq_of_beq_eq_true
noncomputable abbrev Qz:=@List.mem_of_getElem?
noncomputable abbrev QA:=@List.append_nil
noncomputable abbrev QB:=@Nat.lt_of_le_of_lt
noncomputable abbrev QC:=@Nat.zero_le
noncomputable abbrev QD:=@Heap.get?_push_of_some
noncomputable abbrev QE:=@Nat.lt_of_lt_of_le
noncomputable abbrev QF:=@Heap.get?_push_size
noncomputable abbrev QG:=@List.mem_iff_getElem?
noncomputable abbrev QH:=@Int.le_trans
noncomputable abbrev QI:=@List.mem_append
noncomputable abbrev QJ:=@List.getElem?_map
noncomputable abbrev QK:=@Nat.add_le_add_left
noncomputable abbrev QL:=@List.map_congr_left
noncomputable abbrev QM:=@List.all_eq_true
noncomputable abbrev QN:=@List.append_assoc
noncomputable abbrev QO:=@Nat.le_of_ble_eq_true
noncomputable abbrev QP:=@List.length_set
noncomputable abbrev QQ:=@Bool.false_ne_true
noncomputable abbrev QR:=@Nat.ble_eq
noncomputable abbrev QS:=@List.getElem?_eq_none
noncomputable abbrev QT:=@Nat.le_of_eq
noncomputable abbrev QU:=@List.nodup_cons
noncomputable abbrev QV:=@wpAny_bind
noncomputable abbrev QW:=@wpAny_pure
noncomputable abbrev QX:=@of_decide_eq_true
noncomputable abbrev QY:=@wpAny_mono
noncomputable abbrev QZ:=@decide_eq_true
noncomputable abbrev Za:=@eq_of_beq
noncomputable abbrev Zb:=@beq_self_eq_true
noncomputable abbrev Zd:=@beq_eq_false_iff_ne
section
set_option maxHeartbeats 0
noncomputable abbrev pw:Program:=PySem.Challenge.pw_xm0339_01
noncomputable abbrev N:Value:=.none
noncomputable abbrev sv(x:String)(t:Nat):Value:=.str (Str.ofString x) t
noncomputable abbrev iv(i:Int)(t:Nat):Value:=.int i t
noncomputable abbrev rv(a:Nat):Value:=.ref a
noncomputable abbrev tp(l:List Value):Obj:={cls:=.type "tuple",data:=.seq l.toArray}
noncomputable abbrev tb(l:List Value):Obj:={cls:=.none,data:=.fields l.toArray}
noncomputable abbrev cd(l:List Value):Obj:={cls:=.type "code",data:=.fields l.toArray}
noncomputable abbrev fl(T:String)(l:List Value):Obj:={cls:=.type T,data:=.fields l.toArray}
noncomputable abbrev fm(l:List (Option Value)):Obj:={cls:=.type "frame",data:=.plain,slots:=l.toArray}
noncomputable abbrev dc(l:List DictEntry)(n:Nat):Obj:={cls:=.type "dict",data:=.dict l.toArray n}
noncomputable abbrev dn(l:List DictEntry)(n:Nat):Obj:={cls:=.none,data:=.dict l.toArray n}
noncomputable abbrev cl(nm:String)(bases mro:List Value)(ns:Nat)(sub:List Value)(sl:List (Option Value)):Obj:=
 {cls:=.type "type",data:=.cls {name:=Str.ofString nm,bases:=bases,mro:=mro,ns:=ns,qualname:=Str.ofString nm,subclasses:=sub},slots:=sl.toArray}
noncomputable abbrev en(P:Params)(x:String)(t:Nat)(v:Value):DictEntry:=⟨PyData.keyHash P (Str.ofString x),.str (Str.ofString x) t,v⟩
noncomputable def stm(i:Nat):Stmt:=pw.main.body.getD i (.Pass ⟨0,0,0,0⟩)
noncomputable def stc(i j:Nat):Stmt:=match stm i with
 | .ClassDef _ _ _ b _ _ _ _ _ _ _=>b.getD j (.Pass ⟨0,0,0,0⟩)
 |_=>.Pass ⟨0,0,0,0⟩
noncomputable def dName:Stmt→Str
 | .FunctionDef n _ _ _ _ _ _ _ _ _=>n
 |_=>Str.empty
noncomputable def dArgs:Stmt→Arguments
 | .FunctionDef _ a _ _ _ _ _ _ _ _=>a
 |_=>⟨[],[],none,[],[],none,[]⟩
noncomputable def dBody:Stmt→List Stmt
 | .FunctionDef _ _ b _ _ _ _ _ _ _=>b
 |_=>[]
noncomputable def dScope:Stmt→Scope
 | .FunctionDef _ _ _ _ _ _ s _ _ _=>s
 |_=>⟨.function,[],false,false,[]⟩
noncomputable abbrev fr(st:Stmt)(q:Str):Obj:={cls:=.none,data:=.func {name:=dName st,qualname:=q,params:=dArgs st,body:=.stmts (dBody st),scope:=dScope st,globals:=0,closure:=[],defaults:=.none,kwdefaults:=.none}}
noncomputable abbrev fn(st:Stmt)(q:Str)(md c:Value):Obj:={cls:=.type "function",data:=.func {name:=dName st,qualname:=q,params:=dArgs st,body:=.stmts (dBody st),scope:=dScope st,globals:=3,closure:=[],defaults:=.none,kwdefaults:=.none,pyModule:=md,code:=c}}
noncomputable def nsE(P:Params):List DictEntry:=[
 en P "__name__" 165 (sv "law_xm0339_01" 1235),
 en P "__doc__" 166 N,
 en P "__package__" 167 N,
 en P "__loader__" 168 (.builtin "__main__.__loader__#opaque"),
 en P "__spec__" 169 N,
 en P "__annotations__" 170 (rv 6),
 en P "__builtins__" 171 (rv 4),
 en P "__file__" 173 (sv "/claim/cut.py" 172),
 en P "__cached__" 174 N,
 en P "RuneError" 219 (rv 31),
 en P "BadKind" 235 (rv 44),
 en P "LeftOut" 251 (rv 56),
 en P "VOID" 255 (iv 0 254),
 en P "BOOL" 257 (iv 1 256),
 en P "CHAR" 259 (iv 2 258),
 en P "I1" 261 (iv 3 260),
 en P "U1" 263 (iv 4 262),
 en P "I2" 265 (iv 5 264),
 en P "U2" 267 (iv 6 266),
 en P "I4" 269 (iv 7 268),
 en P "U4" 271 (iv 8 270),
 en P "I8" 273 (iv 9 272),
 en P "U8" 275 (iv 10 274),
 en P "NINT" 277 (iv 11 276),
 en P "OBJECT" 279 (iv 12 278),
 en P "STRING" 281 (iv 13 280),
 en P "NULLK" 283 (iv 14 282),
 en P "PRIM_END" 285 (iv 16 284),
 en P "R_PRIM" 287 (iv 1 286),
 en P "R_CLASS" 289 (iv 2 288),
 en P "R_VALUE" 291 (iv 3 290),
 en P "R_ARRAY" 293 (iv 4 292),
 en P "R_BYREF" 295 (iv 5 294),
 en P "R_VAR" 297 (iv 6 296),
 en P "R_MVAR" 299 (iv 7 298),
 en P "R_BOXED" 301 (iv 8 300),
 en P "R_ROREF" 303 (iv 9 302),
 en P "R_FTN" 305 (iv 10 304),
 en P "R_RAW" 307 (iv 11 306),
 en P "DEEPEST_KIND" 309 (iv 24 308),
 en P "HEAVIEST_KIND" 311 (iv 4096 310),
 en P "PRIM_TID" 340 (rv 59),
 en P "TID_PRIM" 369 (rv 60),
 en P "ARRAY_TID" 371 (iv 5 370),
 en P "KindTable" 428 (rv 91),
 en P "inner_kinds" 436 (rv 102),
 en P "row_level" 443 (rv 109),
 en P "row_length" 450 (rv 116),
 en P "check_kind_row" 460 (rv 123),
 en P "check_named" 468 (rv 130),
 en P "check_args" 477 (rv 137),
 en P "may_stand" 486 (rv 144),
 en P "kind_sort" 494 (rv 151),
 en P "tid_of" 503 (rv 158),
 en P "args_of" 512 (rv 165),
 en P "is_value" 520 (rv 172),
 en P "is_var" 529 (rv 179),
 en P "T_NULLABLE" 531 (iv 8 530),
 en P "X_CONST" 535 (iv 1 534),
 en P "X_LOCAL" 537 (iv 2 536),
 en P "X_THIS" 539 (iv 3 538),
 en P "X_FIELD" 541 (iv 4 540),
 en P "X_SFIELD" 543 (iv 5 542),
 en P "X_ELEM" 545 (iv 6 544),
 en P "X_LEN" 547 (iv 7 546),
 en P "X_CALL" 549 (iv 8 548),
 en P "X_NEW" 551 (iv 9 550),
 en P "X_NEWARR" 553 (iv 10 552),
 en P "X_ARRLIT" 555 (iv 11 554),
 en P "X_UN" 557 (iv 13 556),
 en P "X_BIN" 559 (iv 14 558),
 en P "X_AND" 561 (iv 15 560),
 en P "X_OR" 563 (iv 16 562),
 en P "X_COND" 565 (iv 17 564),
 en P "X_COALESCE" 567 (iv 18 566),
 en P "X_CONV" 569 (iv 19 568),
 en P "X_IS" 571 (iv 20 570),
 en P "X_AS" 573 (iv 21 572),
 en P "X_ASSIGN" 575 (iv 22 574),
 en P "X_COMPOUND" 577 (iv 23 576),
 en P "X_LAMBDA" 579 (iv 24 578),
 en P "X_DELEG" 581 (iv 25 580),
 en P "X_CONCAT" 583 (iv 26 582),
 en P "X_LIFT" 585 (iv 27 584),
 en P "X_LIFTUN" 587 (iv 28 586),
 en P "X_AWAIT" 589 (iv 30 588),
 en P "X_SEQ" 591 (iv 31 590),
 en P "X_HOLE" 593 (iv 32 592),
 en P "X_REF" 595 (iv 33 594),
 en P "X_PROP" 597 (iv 34 596),
 en P "X_BASECTOR" 599 (iv 35 598),
 en P "X_FNREF" 601 (iv 36 600),
 en P "CV_BOX" 603 (iv 4 602),
 en P "CV_UNWRAP" 605 (iv 7 604),
 en P "S_EXPR" 607 (iv 1 606),
 en P "S_LOCAL" 609 (iv 2 608),
 en P "S_BLOCK" 611 (iv 3 610),
 en P "S_IF" 613 (iv 4 612),
 en P "S_WHILE" 615 (iv 5 614),
 en P "S_DO" 617 (iv 6 616),
 en P "S_FOR" 619 (iv 7 618),
 en P "S_FOREACH" 621 (iv 8 620),
 en P "S_SWITCH" 623 (iv 9 622),
 en P "S_BREAK" 625 (iv 10 624),
 en P "S_CONTINUE" 627 (iv 11 626),
 en P "S_RETURN" 629 (iv 12 628),
 en P "S_THROW" 631 (iv 13 630),
 en P "S_TRY" 633 (iv 14 632),
 en P "S_USING" 635 (iv 15 634),
 en P "S_YIELD" 637 (iv 16 636),
 en P "S_EMPTY" 639 (iv 18 638),
 en P "FE_ARRAY" 641 (iv 1 640),
 en P "SL_CONST" 643 (iv 1 642),
 en P "SL_DEFAULT" 645 (iv 2 644),
 en P "SL_TYPE" 647 (iv 3 646),
 en P "SL_NULL" 649 (iv 4 648),
 en P "KS_ONE" 651 (iv 1 650),
 en P "KS_MAYBE" 653 (iv 2 652),
 en P "KS_ROW" 655 (iv 3 654),
 en P "KID_PLACES" 725 (rv 180),
 en P "STMT_KIDS" 743 (rv 251),
 en P "parts_at" 755 (rv 275),
 en P "kids_of" 762 (rv 282),
 en P "with_kids" 775 (rv 289),
 en P "plug" 781 (rv 294),
 en P "switch_kids" 791 (rv 301),
 en P "try_kids" 800 (rv 308),
 en P "stmt_kids" 807 (rv 315),
 en P "hole_kind_of" 818 (rv 322),
 en P "X_SLOT" 822 (iv 91 821),
 en P "X_NOTHING" 824 (iv 92 823),
 en P "S_CUT" 826 (iv 93 825),
 en P "S_HOLD" 828 (iv 94 827),
 en P "S_AWAIT" 830 (iv 95 829),
 en P "X_TAKES" 832 (iv 96 831),
 en P "TRUE_TEST" 834 (rv 323),
 en P "Splitter" 871 (rv 347),
 en P "has_await" 879 (rv 358),
 en P "any_await" 886 (rv 365),
 en P "mark_cut" 894 (rv 372),
 en P "row_of" 901 (rv 379),
 en P "place_asked" 909 (rv 386),
 en P "hold_now" 919 (rv 393),
 en P "fix_target" 933 (rv 400),
 en P "taken_ahead" 943 (rv 407),
 en P "fix_object" 952 (rv 414),
 en P "split" 964 (rv 421),
 en P "split_await" 975 (rv 428),
 en P "paired" 984 (rv 435),
 en P "split_logic" 997 (rv 442),
 en P "split_choice" 1010 (rv 449),
 en P "split_coalesce" 1026 (rv 456),
 en P "split_compound" 1039 (rv 463),
 en P "held_part" 1050 (rv 470),
 en P "split_parts" 1063 (rv 477),
 en P "with_pre" 1071 (rv 484),
 en P "split_row" 1081 (rv 491),
 en P "split_maybe" 1089 (rv 498),
 en P "split_stmt" 1101 (rv 505),
 en P "split_plain" 1112 (rv 512),
 en P "pre_yield" 1122 (rv 519),
 en P "stop_unless" 1130 (rv 526),
 en P "split_loop" 1142 (rv 533),
 en P "split_do" 1159 (rv 540),
 en P "split_for" 1172 (rv 547),
 en P "split_switch" 1187 (rv 554),
 en P "pick_first" 1206 (rv 561),
 en P "bare_label" 1213 (rv 568),
 en P "asked_when" 1224 (rv 575),
 en P "split_try" 1234 (rv 582),
 en P "_law_any" 1244 (rv 589),
 en P "_law_number" 1251 (rv 596),
 en P "_law_var" 1260 (rv 603),
 en P "_law_call" 1269 (rv 610),
 en P "_law_local" 1277 (rv 617),
 en P "_law_grab" 1285 (rv 624),
 en P "_law_int" 1294 (rv 631),
 en P "_law_test" 1304 (rv 638),
 en P "_law_small" 1314 (rv 645),
 en P "_law_rows" 1328 (rv 652),
 en P "_law_block" 1339 (rv 659),
 en P "_law_looped" 1347 (rv 666),
 en P "_law_do_alone" 1362 (rv 673),
 en P "_law_for" 1377 (rv 680),
 en P "_law_foreach" 1391 (rv 687),
 en P "_law_label" 1404 (rv 694),
 en P "_law_switch" 1410 (rv 699),
 en P "_law_waits" 1417 (rv 706),
 en P "_law_using" 1431 (rv 713),
 en P "_law_handler" 1445 (rv 720),
 en P "_law_try" 1451 (rv 725),
 en P "_law_big" 1464 (rv 732),
 en P "_law_fresh" 1472 (rv 739),
 en P "_law_begin" 1481 (rv 746),
 en P "_law_put" 1490 (rv 753),
 en P "_law_note" 1498 (rv 760),
 en P "_law_kept" 1509 (rv 767),
 en P "_law_wait" 1517 (rv 774),
 en P "_law_takes" 1526 (rv 781),
 en P "_law_eval" 1532 (rv 786),
 en P "_law_ended" 1539 (rv 793),
 en P "_law_row" 1549 (rv 800),
 en P "_law_bare" 1556 (rv 807),
 en P "_law_block_read" 1565 (rv 814),
 en P "_law_do_read" 1575 (rv 821),
 en P "_law_for_read" 1584 (rv 828),
 en P "_law_each" 1595 (rv 835),
 en P "_law_pick" 1608 (rv 842),
 en P "_law_used" 1617 (rv 849),
 en P "_law_catch" 1630 (rv 856),
 en P "_law_try_read" 1641 (rv 863),
 en P "_law_exec" 1651 (rv 870),
 en P "_law_other" 1660 (rv 877),
 en P "_law_read" 1666 (rv 882),
 en P "law" 1677 (rv 889)]
noncomputable abbrev nsF(P:Params):Obj:=dc (nsE P) 215
noncomputable def lcs(st:Stmt):List Str:=(dScope st).names.filterMap fun p=>@Bool.rec (fun _=>Option Str) none (some p.1) (p.2==.local)
noncomputable def svs(l:List Str):Nat→List Value:=List.rec (fun _=>[]) (fun x _ f k=>.str x k::f (k+1)) l
noncomputable def dLine:Stmt→Int
 | .FunctionDef _ _ _ _ _ _ _ _ _ p=>p.line
 |_=>0
noncomputable def fF(st:Stmt)(md:Value)(a k n:Nat)(r:List Value)(l:Nat):List Obj:=[fr st (dName st),cd (.str (dName st) k::.str (dName st) (k+1)::sv "/claim/cut.py" (k+2)::iv (dLine st) 0::iv (dArgs st).args.length 0::iv 0 0::iv 0 0::iv 3 0::rv a::.bool true::iv 181 0::rv (a+1)::N::(r++[rv (a+n),iv ((k+l+3:Nat):Int) 0,iv (dLine st) 0,sv "/claim/cut.py" (k+l+4)])),fn st (dName st) md (rv (a+n+1))]
noncomputable def f7(i a k:Nat)(md:Value):List Obj:=tp []::tb []::tp (svs (lcs (stm i)) (k+3))::tp []::fF (stm i) md a k 4 [rv (a+2),rv (a+3)] (lcs (stm i)).length
noncomputable def f5(i a k:Nat)(md:Value):List Obj:=tp []::tb []::fF (stm i) md a k 2 [N,N] 0
noncomputable abbrev md0:Value:=sv "framerune.kinds" 252
noncomputable abbrev md1:Value:=sv "framerune.csbound" 532
noncomputable abbrev md2:Value:=sv "framerune.sourceops" 808
noncomputable abbrev md3:Value:=sv "framerune.sourcesplit" 819
noncomputable abbrev md4:Value:=sv "law_xm0339_01" 1235
noncomputable def ob0(P:Params):List Obj:=[[boot_o_0 P,boot_o_1 P,dn [en P "type.__subclasses__.Exception.0" 216 (iv 31 0),en P "type.__subclasses__.Exception.n" 217 (iv 1 0)] 2,nsF P,boot_o_4 P,boot_o_5 P,boot_o_6 P,boot_o_7 P,boot_o_8 P,boot_o_9 P,boot_o_10 P,tp [],tb [iv 2 0,iv 0 0,rv 20,iv 7 0,iv 0 0,rv 40,iv 9 0,iv 0 0,rv 52,iv 44 0,iv 0 0,rv 66,iv 93 0,iv 0 0,rv 101,iv 102 0,iv 0 0,rv 108,iv 106 0,iv 0 0,rv 115,iv 112 0,iv 0 0,rv 122,iv 134 0,iv 0 0,rv 129,iv 138 0,iv 0 0,rv 136,iv 142 0,iv 0 0,rv 143,iv 147 0,iv 0 0,rv 150,iv 149 0,iv 0 0,rv 157,iv 158 0,iv 0 0,rv 164,iv 163 0,iv 0 0,rv 171,iv 167 0,iv 0 0,rv 178,iv 235 0,iv 0 0,rv 274,iv 244 0,iv 0 0,rv 281,iv 246 0,iv 0 0,rv 288,iv 258 0,iv 0 0,rv 293,iv 267 0,iv 0 0,rv 300,iv 272 0,iv 0 0,rv 307,iv 279 0,iv 0 0,rv 314,iv 286 0,iv 0 0,rv 321,iv 302 0,iv 0 0,rv 329,iv 311 0,iv 0 0,rv 357,iv 318 0,iv 0 0,rv 364,iv 320 0,iv 0 0,rv 371,iv 325 0,iv 0 0,rv 378,iv 327 0,iv 0 0,rv 385,iv 329 0,iv 0 0,rv 392,iv 335 0,iv 0 0,rv 399,iv 355 0,iv 0 0,rv 406,iv 361 0,iv 0 0,rv 413,iv 365 0,iv 0 0,rv 420,iv 389 0,iv 0 0,rv 427,iv 394 0,iv 0 0,rv 434,iv 399 0,iv 0 0,rv 441,iv 410 0,iv 0 0,rv 448,iv 421 0,iv 0 0,rv 455,iv 437 0,iv 0 0,rv 462,iv 447 0,iv 0 0,rv 469,iv 455 0,iv 0 0,rv 476,iv 470 0,iv 0 0,rv 483,iv 475 0,iv 0 0,rv 490,iv 480 0,iv 0 0,rv 497,iv 484 0,iv 0 0,rv 504,iv 509 0,iv 0 0,rv 511,iv 522 0,iv 0 0,rv 518,iv 526 0,iv 0 0,rv 525,iv 528 0,iv 0 0,rv 532,iv 542 0,iv 0 0,rv 539,iv 552 0,iv 0 0,rv 546,iv 563 0,iv 0 0,rv 553,iv 576 0,iv 0 0,rv 560,iv 593 0,iv 0 0,rv 567,iv 597 0,iv 0 0,rv 574,iv 603 0,iv 0 0,rv 581,iv 611 0,iv 0 0,rv 588,iv 617 0,iv 0 0,rv 595,iv 620 0,iv 0 0,rv 602,iv 625 0,iv 0 0,rv 609,iv 627 0,iv 0 0,rv 616,iv 629 0,iv 0 0,rv 623,iv 632 0,iv 0 0,rv 630,iv 643 0,iv 0 0,rv 637,iv 651 0,iv 0 0,rv 644,iv 673 0,iv 0 0,rv 651,iv 683 0,iv 0 0,rv 658,iv 689 0,iv 0 0,rv 665,iv 691 0,iv 0 0,rv 672,iv 699 0,iv 0 0,rv 679,iv 709 0,iv 0 0,rv 686,iv 718 0,iv 0 0,rv 693,iv 727 0,iv 0 0,rv 698,iv 747 0,iv 0 0,rv 705,iv 751 0,iv 0 0,rv 712,iv 758 0,iv 0 0,rv 719,iv 765 0,iv 0 0,rv 724,iv 772 0,iv 0 0,rv 731,iv 793 0,iv 0 0,rv 738,iv 796 0,iv 0 0,rv 745,iv 799 0,iv 0 0,rv 752,iv 802 0,iv 0 0,rv 759,iv 808 0,iv 0 0,rv 766,iv 819 0,iv 0 0,rv 773,iv 823 0,iv 0 0,rv 780,iv 833 0,iv 0 0,rv 785,iv 865 0,iv 0 0,rv 792,iv 867 0,iv 0 0,rv 799,iv 873 0,iv 0 0,rv 806,iv 875 0,iv 0 0,rv 813,iv 881 0,iv 0 0,rv 820,iv 889 0,iv 0 0,rv 827,iv 898 0,iv 0 0,rv 834,iv 910 0,iv 0 0,rv 841,iv 922 0,iv 0 0,rv 848,iv 928 0,iv 0 0,rv 855,iv 936 0,iv 0 0,rv 862,iv 950 0,iv 0 0,rv 869,iv 988 0,iv 0 0,rv 876,iv 1003 0,iv 0 0,rv 881,iv 1011 0,iv 0 0,rv 888],cd [sv "<module>" 182,sv "<module>" 183,sv "/claim/cut.py" 184,iv 1 0,iv 0 0,iv 0 0,iv 0 0,iv 0 0,rv 11,.bool false,iv 181 0,rv 12,N,N,N,N,iv 185 0,iv 1 0,sv "/claim/cut.py" 186],fm [some (rv 13),some (rv 3),some (rv 3),none,some (sv "__main__" 164),none,some (rv 0)],tp [.type "Exception"],fl "builtin_function_or_method" [.builtin "type.__prepare__",.type "type"],dc [en P "__module__" 196 (sv "framerune.faults" 187),en P "__qualname__" 198 (sv "RuneError" 197),en P "__firstlineno__" 200 (iv 2 199),en P "__init__" 209 (rv 28),en P "__static_attributes__" 212 (rv 29)] 5,tp [],tb [iv 4 0,iv 4 0,rv 27],cd [sv "RuneError" 191,sv "RuneError" 192,sv "/claim/cut.py" 193,iv 2 0,iv 0 0,iv 0 0,iv 0 0,iv 0 0,rv 18,.bool false,iv 181 0,rv 19,N,N,N,N,iv 194 0,iv 2 0,sv "/claim/cut.py" 195],fm [some (rv 20),some (rv 3),some (rv 17),none,some (sv "framerune.faults" 187),none,some (rv 0)],tp [],tb [],tp [sv "self" 204,sv "code" 205,sv "at" 206],tp [],fr (stc 1 0) "RuneError.__init__",cd [sv "__init__" 201,sv "RuneError.__init__" 202,sv "/claim/cut.py" 203,iv 4 0,iv 3 0,iv 0 0,iv 0 0,iv 3 0,rv 22,.bool true,iv 181 0,rv 23,N,rv 24,rv 25,rv 26,iv 207 0,iv 4 0,sv "/claim/cut.py" 208],fn (stc 1 0) "RuneError.__init__" (sv "framerune.faults" 187) (rv 27),tp [sv "at" 210,sv "code" 211],dc [en P "__module__" 196 (sv "framerune.faults" 187),en P "__firstlineno__" 200 (iv 2 199),en P "__init__" 209 (rv 28),en P "__static_attributes__" 212 (rv 29),en P "__weakref__" 214 (rv 32),en P "__doc__" 215 N] 3,cl "RuneError" [.type "Exception"] [rv 31,.type "Exception",.type "BaseException",.type "object"] 30 [rv 44,rv 56] [some (rv 15),none,some (sv "RuneError" 189),some (sv "RuneError" 197),some (.builtin "Exception.__new__"),some (.bool true)],fl "getset_descriptor" [sv "__weakref__" 213,rv 31,.builtin "ExceptionGroup.__weakref__",N],fl "super" [rv 31,rv 31,rv 31],fl "builtin_function_or_method" [.builtin "object.__init_subclass__",rv 31],tp [rv 31],fl "builtin_function_or_method" [.builtin "type.__prepare__",.type "type"],dc [en P "__module__" 227 (sv "framerune.faults" 187),en P "__qualname__" 229 (sv "BadKind" 228),en P "__firstlineno__" 231 (iv 7 230),en P "__static_attributes__" 232 (rv 42)] 4,tp [],tb [],cd [sv "BadKind" 222,sv "BadKind" 223,sv "/claim/cut.py" 224,iv 7 0,iv 0 0,iv 0 0,iv 0 0,iv 0 0,rv 38,.bool false,iv 181 0,rv 39,N,N,N,N,iv 225 0,iv 7 0,sv "/claim/cut.py" 226],fm [some (rv 40),some (rv 3),some (rv 37),none,some (sv "framerune.faults" 187),none,some (rv 0)],tp [],dc [en P "__module__" 227 (sv "framerune.faults" 187),en P "__firstlineno__" 231 (iv 7 230),en P "__static_attributes__" 232 (rv 42),en P "__doc__" 233 N] 2,cl "BadKind" [rv 31] [rv 44,rv 31,.type "Exception",.type "BaseException",.type "object"] 43 [] [some (rv 35),none,some (sv "BadKind" 220),some (sv "BadKind" 228),some (.builtin "Exception.__new__"),some (.bool true)],fl "super" [rv 44,rv 44,rv 44],fl "builtin_function_or_method" [.builtin "object.__init_subclass__",rv 44],tp [rv 31],fl "builtin_function_or_method" [.builtin "type.__prepare__",.type "type"],dc [en P "__module__" 243 (sv "framerune.faults" 187),en P "__qualname__" 245 (sv "LeftOut" 244),en P "__firstlineno__" 247 (iv 9 246),en P "__static_attributes__" 248 (rv 54)] 4,tp [],tb [],cd [sv "LeftOut" 238,sv "LeftOut" 239,sv "/claim/cut.py" 240,iv 9 0,iv 0 0,iv 0 0,iv 0 0,iv 0 0,rv 50,.bool false,iv 181 0,rv 51,N,N,N,N,iv 241 0,iv 9 0,sv "/claim/cut.py" 242],fm [some (rv 52),some (rv 3),some (rv 49),none,some (sv "framerune.faults" 187),none,some (rv 0)],tp [],dc [en P "__module__" 243 (sv "framerune.faults" 187),en P "__firstlineno__" 247 (iv 9 246),en P "__static_attributes__" 248 (rv 54),en P "__doc__" 249 N] 2,cl "LeftOut" [rv 31] [rv 56,rv 31,.type "Exception",.type "BaseException",.type "object"] 55 [] [some (rv 47),none,some (sv "LeftOut" 236),some (sv "LeftOut" 244),some (.builtin "Exception.__new__"),some (.bool true)],fl "super" [rv 56,rv 56,rv 56],fl "builtin_function_or_method" [.builtin "object.__init_subclass__",rv 56],dc [⟨0,iv 0 254,iv 20 312⟩,⟨1,iv 1 256,iv 9 313⟩,⟨2,iv 2 258,iv 10 314⟩,⟨3,iv 3 260,iv 11 315⟩,⟨4,iv 4 262,iv 12 316⟩,⟨5,iv 5 264,iv 13 317⟩,⟨6,iv 6 266,iv 14 318⟩,⟨7,iv 7 268,iv 15 319⟩,⟨8,iv 8 270,iv 16 320⟩,⟨9,iv 9 272,iv 17 321⟩,⟨10,iv 10 274,iv 18 322⟩,⟨11,iv 11 276,iv 19 323⟩,⟨12,iv 12 278,iv 1 324⟩,⟨13,iv 13 280,iv 4 325⟩] 14]].flatten
noncomputable def ob1(P:Params):List Obj:=[[dc [⟨20,iv 20 341,iv 0 254⟩,⟨9,iv 9 342,iv 1 256⟩,⟨10,iv 10 343,iv 2 258⟩,⟨11,iv 11 344,iv 3 260⟩,⟨12,iv 12 345,iv 4 262⟩,⟨13,iv 13 346,iv 5 264⟩,⟨14,iv 14 347,iv 6 266⟩,⟨15,iv 15 348,iv 7 268⟩,⟨16,iv 16 349,iv 8 270⟩,⟨17,iv 17 350,iv 9 272⟩,⟨18,iv 18 351,iv 10 274⟩,⟨19,iv 19 352,iv 11 276⟩,⟨1,iv 1 353,iv 12 278⟩,⟨4,iv 4 354,iv 13 280⟩] 14,tp [],fl "builtin_function_or_method" [.builtin "type.__prepare__",.type "type"],dc [en P "__module__" 379 md0,en P "__qualname__" 381 (sv "KindTable" 380),en P "__firstlineno__" 383 (iv 44 382),en P "__init__" 392 (rv 74),en P "row" 400 (rv 81),en P "put" 415 (rv 88),en P "__static_attributes__" 421 (rv 89)] 7,tp [],tb [iv 46 0,iv 4 0,rv 73,iv 60 0,iv 4 0,rv 80,iv 65 0,iv 4 0,rv 87],cd [sv "KindTable" 374,sv "KindTable" 375,sv "/claim/cut.py" 376,iv 44 0,iv 0 0,iv 0 0,iv 0 0,iv 0 0,rv 64,.bool false,iv 181 0,rv 65,N,N,N,N,iv 377 0,iv 44 0,sv "/claim/cut.py" 378],fm [some (rv 66),some (rv 3),some (rv 63),none,some md0,none,some (rv 0)],tp [],tb [],tp [sv "self" 387,sv "number" 388,sv "row" 389],tp [],fr (stc 37 0) "KindTable.__init__",cd [sv "__init__" 384,sv "KindTable.__init__" 385,sv "/claim/cut.py" 386,iv 46 0,iv 1 0,iv 0 0,iv 0 0,iv 3 0,rv 68,.bool true,iv 181 0,rv 69,N,rv 70,rv 71,rv 72,iv 390 0,iv 46 0,sv "/claim/cut.py" 391],fn (stc 37 0) "KindTable.__init__" md0 (rv 73),tp [],tb [],tp [sv "self" 396,sv "k" 397],tp [],fr (stc 37 1) "KindTable.row",cd [sv "row" 393,sv "KindTable.row" 394,sv "/claim/cut.py" 395,iv 60 0,iv 2 0,iv 0 0,iv 0 0,iv 3 0,rv 75,.bool true,iv 181 0,rv 76,N,rv 77,rv 78,rv 79,iv 398 0,iv 60 0,sv "/claim/cut.py" 399],fn (stc 37 1) "KindTable.row" md0 (rv 80),tp [],tb [],tp [sv "self" 404,sv "row" 405,sv "found" 406,sv "depth" 407,sv "weight" 408,sv "opened" 409,sv "level" 410,sv "inner" 411,sv "k" 412],tp [],fr (stc 37 2) "KindTable.put",cd [sv "put" 401,sv "KindTable.put" 402,sv "/claim/cut.py" 403,iv 65 0,iv 2 0,iv 0 0,iv 0 0,iv 3 0,rv 82,.bool true,iv 181 0,rv 83,N,rv 84,rv 85,rv 86,iv 413 0,iv 65 0,sv "/claim/cut.py" 414],fn (stc 37 2) "KindTable.put" md0 (rv 87),tp [sv "depths" 416,sv "index" 417,sv "opens" 418,sv "rows" 419,sv "weights" 420],dc [en P "__module__" 379 md0,en P "__firstlineno__" 383 (iv 44 382),en P "__init__" 392 (rv 74),en P "row" 400 (rv 81),en P "put" 415 (rv 88),en P "__static_attributes__" 421 (rv 89),en P "__dict__" 423 (rv 92),en P "__weakref__" 425 (rv 93),en P "__doc__" 426 N] 4,cl "KindTable" [.type "object"] [rv 91,.type "object"] 90 [] [none,none,some (sv "KindTable" 372),some (sv "KindTable" 380),some (.builtin "object.__new__"),some (.bool true)],fl "getset_descriptor" [sv "__dict__" 422,rv 91,.builtin "function.__dict__",.builtin "function.__dict__#set"],fl "getset_descriptor" [sv "__weakref__" 424,rv 91,.builtin "ExceptionGroup.__weakref__",N],fl "super" [rv 91,rv 91,rv 91],fl "builtin_function_or_method" [.builtin "object.__init_subclass__",rv 91]],f7 38 96 429 md0,f7 39 103 437 md0,f7 40 110 444 md0,(f7 41 117 451 md0).take 3].flatten
noncomputable def ob2(P:Params):List Obj:=[(f7 41 117 451 md0).drop 3,f7 42 124 461 md0,f7 43 131 469 md0,f7 44 138 478 md0,f7 45 145 487 md0,f7 46 152 495 md0,f7 47 159 504 md0,f7 48 166 513 md0,f7 49 173 521 md0].flatten
noncomputable def ob3(P:Params):List Obj:=[[dc [⟨4,iv 4 540,rv 182⟩,⟨6,iv 6 544,rv 185⟩,⟨7,iv 7 546,rv 187⟩,⟨8,iv 8 548,rv 190⟩,⟨9,iv 9 550,rv 192⟩,⟨10,iv 10 552,rv 194⟩,⟨11,iv 11 554,rv 196⟩,⟨13,iv 13 556,rv 198⟩,⟨14,iv 14 558,rv 201⟩,⟨15,iv 15 560,rv 204⟩,⟨16,iv 16 562,rv 207⟩,⟨17,iv 17 564,rv 211⟩,⟨18,iv 18 566,rv 214⟩,⟨19,iv 19 568,rv 216⟩,⟨20,iv 20 570,rv 218⟩,⟨21,iv 21 572,rv 220⟩,⟨22,iv 22 574,rv 223⟩,⟨23,iv 23 576,rv 227⟩,⟨25,iv 25 580,rv 229⟩,⟨26,iv 26 582,rv 231⟩,⟨27,iv 27 584,rv 234⟩,⟨28,iv 28 586,rv 236⟩,⟨30,iv 30 588,rv 238⟩,⟨31,iv 31 590,rv 241⟩,⟨33,iv 33 594,rv 243⟩,⟨34,iv 34 596,rv 246⟩,⟨35,iv 35 598,rv 248⟩,⟨36,iv 36 600,rv 250⟩] 28,tp [iv 2 656,iv 1 650],tp [rv 181],tp [iv 2 658,iv 1 650],tp [iv 3 659,iv 1 650],tp [rv 183,rv 184],tp [iv 2 661,iv 1 650],tp [rv 186],tp [iv 2 663,iv 2 652],tp [iv 4 664,iv 3 654],tp [rv 188,rv 189],tp [iv 3 666,iv 3 654],tp [rv 191],tp [iv 2 668,iv 1 650],tp [rv 193],tp [iv 2 670,iv 3 654],tp [rv 195],tp [iv 3 672,iv 1 650],tp [rv 197],tp [iv 3 674,iv 1 650],tp [iv 4 675,iv 1 650],tp [rv 199,rv 200],tp [iv 2 677,iv 1 650],tp [iv 3 678,iv 1 650],tp [rv 202,rv 203],tp [iv 2 680,iv 1 650],tp [iv 3 681,iv 1 650],tp [rv 205,rv 206],tp [iv 2 683,iv 1 650],tp [iv 3 684,iv 1 650],tp [iv 4 685,iv 1 650],tp [rv 208,rv 209,rv 210],tp [iv 2 687,iv 1 650],tp [iv 3 688,iv 1 650],tp [rv 212,rv 213],tp [iv 2 690,iv 1 650],tp [rv 215],tp [iv 2 692,iv 1 650],tp [rv 217],tp [iv 2 694,iv 1 650],tp [rv 219],tp [iv 2 696,iv 1 650],tp [iv 3 697,iv 1 650],tp [rv 221,rv 222],dc [⟨23,iv 23 576,rv 227⟩,⟨25,iv 25 580,rv 229⟩,⟨26,iv 26 582,rv 231⟩,⟨27,iv 27 584,rv 234⟩,⟨28,iv 28 586,rv 236⟩,⟨30,iv 30 588,rv 238⟩,⟨31,iv 31 590,rv 241⟩,⟨33,iv 33 594,rv 243⟩,⟨34,iv 34 596,rv 246⟩,⟨35,iv 35 598,rv 248⟩,⟨36,iv 36 600,rv 250⟩] 11,tp [iv 2 699,iv 1 650],tp [iv 3 700,iv 1 650],tp [rv 225,rv 226],tp [iv 2 701,iv 2 652],tp [rv 228],tp [iv 2 702,iv 3 654],tp [rv 230],tp [iv 3 703,iv 1 650],tp [iv 4 704,iv 1 650],tp [rv 232,rv 233],tp [iv 3 705,iv 1 650],tp [rv 235],tp [iv 2 706,iv 1 650],tp [rv 237],tp [iv 2 707,iv 3 654]]].flatten
noncomputable def ob4(P:Params):List Obj:=[[tp [iv 3 708,iv 1 650],tp [rv 239,rv 240],tp [iv 2 709,iv 1 650],tp [rv 242],tp [iv 2 710,iv 2 652],tp [iv 5 711,iv 3 654],tp [rv 244,rv 245],tp [iv 3 712,iv 3 654],tp [rv 247],tp [iv 2 713,iv 2 652],tp [rv 249],dc [⟨3,iv 3 610,rv 253⟩,⟨4,iv 4 612,rv 256⟩,⟨5,iv 5 614,rv 258⟩,⟨6,iv 6 616,rv 260⟩,⟨7,iv 7 618,rv 264⟩,⟨8,iv 8 620,rv 266⟩,⟨15,iv 15 634,rv 268⟩] 7,tp [iv 1 726,iv 3 654],tp [rv 252],tp [iv 2 727,iv 1 650],tp [iv 3 728,iv 2 652],tp [rv 254,rv 255],tp [iv 2 729,iv 1 650],tp [rv 257],tp [iv 1 730,iv 1 650],tp [rv 259],tp [iv 1 731,iv 3 654],tp [iv 4 732,iv 1 650],tp [iv 3 733,iv 3 654],tp [rv 261,rv 262,rv 263],tp [iv 3 734,iv 1 650],tp [rv 265],tp [iv 4 735,iv 1 650],tp [rv 267]],f7 115 269 744 md1,f7 116 276 756 md1,f7 117 283 763 md1,f5 118 290 776 md1,(f7 119 295 782 md1).take 5].flatten
noncomputable def ob5(P:Params):List Obj:=[(f7 119 295 782 md1).drop 5,f7 120 302 792 md1,f7 121 309 801 md1,f7 123 316 810 md2,[tp [iv 1 534,iv 1 256,iv 1 833],tp [],fl "builtin_function_or_method" [.builtin "type.__prepare__",.type "type"],dc [en P "__module__" 842 md3,en P "__qualname__" 844 (sv "Splitter" 843),en P "__firstlineno__" 846 (iv 302 845),en P "__init__" 854 (rv 337),en P "slot" 861 (rv 344),en P "__static_attributes__" 864 (rv 345)] 6,tp [],tb [iv 304 0,iv 4 0,rv 336,iv 308 0,iv 4 0,rv 343],cd [sv "Splitter" 837,sv "Splitter" 838,sv "/claim/cut.py" 839,iv 302 0,iv 0 0,iv 0 0,iv 0 0,iv 0 0,rv 327,.bool false,iv 181 0,rv 328,N,N,N,N,iv 840 0,iv 302 0,sv "/claim/cut.py" 841],fm [some (rv 329),some (rv 3),some (rv 326),none,some md3,none,some (rv 0)],tp [],tb [],tp [sv "self" 850,sv "kt" 851],tp [],fr (stc 132 0) "Splitter.__init__",cd [sv "__init__" 847,sv "Splitter.__init__" 848,sv "/claim/cut.py" 849,iv 304 0,iv 2 0,iv 0 0,iv 0 0,iv 3 0,rv 331,.bool true,iv 181 0,rv 332,N,rv 333,rv 334,rv 335,iv 852 0,iv 304 0,sv "/claim/cut.py" 853],fn (stc 132 0) "Splitter.__init__" md3 (rv 336),tp [],tb [],tp [sv "self" 858],tp [],fr (stc 132 1) "Splitter.slot",cd [sv "slot" 855,sv "Splitter.slot" 856,sv "/claim/cut.py" 857,iv 308 0,iv 1 0,iv 0 0,iv 0 0,iv 3 0,rv 338,.bool true,iv 181 0,rv 339,N,rv 340,rv 341,rv 342,iv 859 0,iv 308 0,sv "/claim/cut.py" 860],fn (stc 132 1) "Splitter.slot" md3 (rv 343),tp [sv "count" 862,sv "kt" 863],dc [en P "__module__" 842 md3,en P "__firstlineno__" 846 (iv 302 845),en P "__init__" 854 (rv 337),en P "slot" 861 (rv 344),en P "__static_attributes__" 864 (rv 345),en P "__dict__" 866 (rv 348),en P "__weakref__" 868 (rv 349),en P "__doc__" 869 N] 4,cl "Splitter" [.type "object"] [rv 347,.type "object"] 346 [] [none,none,some (sv "Splitter" 835),some (sv "Splitter" 843),some (.builtin "object.__new__"),some (.bool true)],fl "getset_descriptor" [sv "__dict__" 865,rv 347,.builtin "function.__dict__",.builtin "function.__dict__#set"],fl "getset_descriptor" [sv "__weakref__" 867,rv 347,.builtin "ExceptionGroup.__weakref__",N],fl "super" [rv 347,rv 347,rv 347],fl "builtin_function_or_method" [.builtin "object.__init_subclass__",rv 347]],f7 133 352 872 md3,(f7 134 359 880 md3).take 1].flatten
noncomputable def ob6(P:Params):List Obj:=[(f7 134 359 880 md3).drop 1,f7 135 366 887 md3,f7 136 373 895 md3,f7 137 380 902 md3,f7 138 387 910 md3,f7 139 394 920 md3,f7 140 401 934 md3,f7 141 408 944 md3,(f7 142 415 953 md3).take 5].flatten
noncomputable def ob7(P:Params):List Obj:=[(f7 142 415 953 md3).drop 5,f7 143 422 965 md3,f7 144 429 976 md3,f7 145 436 985 md3,f7 146 443 998 md3,f7 147 450 1011 md3,f7 148 457 1027 md3,f7 149 464 1040 md3,f7 150 471 1051 md3,(f7 151 478 1064 md3).take 2].flatten
noncomputable def ob8(P:Params):List Obj:=[(f7 151 478 1064 md3).drop 2,f7 152 485 1072 md3,f7 153 492 1082 md3,f7 154 499 1090 md3,f7 155 506 1102 md3,f7 156 513 1113 md3,f7 157 520 1123 md3,f7 158 527 1131 md3,(f7 159 534 1143 md3).take 6].flatten
noncomputable def ob9(P:Params):List Obj:=[(f7 159 534 1143 md3).drop 6,f7 160 541 1160 md3,f7 161 548 1173 md3,f7 162 555 1188 md3,f7 163 562 1207 md3,f7 164 569 1214 md3,f7 165 576 1225 md3,f7 167 583 1237 md4,f7 168 590 1245 md4,(f7 169 597 1252 md4).take 3].flatten
noncomputable def ob10(P:Params):List Obj:=[(f7 169 597 1252 md4).drop 3,f7 170 604 1261 md4,f7 171 611 1270 md4,f7 172 618 1278 md4,f7 173 625 1286 md4,f7 174 632 1295 md4,f7 175 639 1305 md4,f7 176 646 1315 md4,f7 177 653 1329 md4].flatten
noncomputable def ob11(P:Params):List Obj:=[f7 178 660 1340 md4,f7 179 667 1348 md4,f7 180 674 1363 md4,f7 181 681 1378 md4,f7 182 688 1392 md4,f5 183 695 1405 md4,f7 184 700 1411 md4,f7 185 707 1418 md4,(f7 186 714 1432 md4).take 6].flatten
noncomputable def ob12(P:Params):List Obj:=[(f7 186 714 1432 md4).drop 6,f5 187 721 1446 md4,f7 188 726 1452 md4,f7 189 733 1465 md4,f7 190 740 1473 md4,f7 191 747 1482 md4,f7 192 754 1491 md4,f7 193 761 1499 md4,f7 194 768 1510 md4,(f7 195 775 1518 md4).take 5].flatten
noncomputable def ob13(P:Params):List Obj:=[(f7 195 775 1518 md4).drop 5,f5 196 782 1527 md4,f7 197 787 1533 md4,f7 198 794 1540 md4,f7 199 801 1550 md4,f7 200 808 1557 md4,f7 201 815 1566 md4,f7 202 822 1576 md4,f7 203 829 1585 md4,(f7 204 836 1596 md4).take 4].flatten
noncomputable def ob14(P:Params):List Obj:=[(f7 204 836 1596 md4).drop 4,f7 205 843 1609 md4,f7 206 850 1618 md4,f7 207 857 1631 md4,f7 208 864 1642 md4,f7 209 871 1652 md4,f5 210 878 1661 md4,f7 211 883 1667 md4].flatten
noncomputable def obs(P:Params):Nat→List Obj
 |0=>ob0 P
 |1=>ob1 P
 |2=>ob2 P
 |3=>ob3 P
 |4=>ob4 P
 |5=>ob5 P
 |6=>ob6 P
 |7=>ob7 P
 |8=>ob8 P
 |9=>ob9 P
 |10=>ob10 P
 |11=>ob11 P
 |12=>ob12 P
 |13=>ob13 P
 |14=>ob14 P
 |_=>[]
noncomputable def getF(P:Params)(b:Nat):Obj:=(obs P (b / 60)).getD (b % 60) {cls:=.none}
noncomputable def mkT(f:Nat→Obj)(n:Nat):Nat→Nat→Nat→BT
 |0,_,_=>.nil
 |k+1,a,b=>match Nat.blt b n with
  |true=>.node (f b) (mkT f n k (2*a) (a+b)) (mkT f n k (2*a) (2*a+b))
  |false=>.nil
noncomputable def FT(P:Params):BT:=mkT (getF P) 890 11 1 0
noncomputable abbrev nsAt(P:Params)(m:Nat)(v:Value)(ep:Nat):Obj:=dc (en P "__name__" 165 v::((nsE P).take m).drop 1) ep
noncomputable abbrev cut(P:Params)(a m:Nat):Obj:=match getF P a with
 |⟨_,_,.fields vs,_⟩=>tb (vs.toList.take m)
 |o=>o
noncomputable def stT(w:World)(os:OsState)(n k:Nat)(ov:List (Nat × Obj)):SharedT:=⟨ov.foldr (fun p T=>T.ins p.1 p.2) (FT w.params),n,{},#[],{},k,os⟩
noncomputable def grp(i c:Nat):List Stmt:=((behindTheImports pw).drop i).take c
noncomputable def topEnv:Env:={scope:=pw.main.scope,locals:=mainNs,globals:=mainNs,cells:=[],code:=.ref 13,frame:=some 14}
noncomputable def topCode:Code:=.body (behindTheImports pw) topEnv
noncomputable abbrev topB:List Frame:=[topFrame ⟨0,0,0,0⟩]
noncomputable abbrev topAnn:Option Value:=some (.ref 6)
noncomputable def b0N:Nat:=15
noncomputable def b0K:Nat:=187
noncomputable def b0O(P:Params):List (Nat × Obj):=[(2,dn [] 0),(3,nsAt P 9 (sv "__main__" 164) 9),(12,cut P 12 0)]
theorem split_body:behindTheImports pw=(grp 0 2++(grp 2 1++(grp 3 21++(grp 24 11++(grp 35 2++(grp 37 4++(grp 41 22++(grp 63 44++(grp 107 6++(grp 113 1++(grp 114 9++(grp 123 11++(grp 134 12++(grp 146 12++(grp 158 12++(grp 170 12++(grp 182 12++(grp 194 12++(grp 206 6++[]))))))))))))))))))):=by kernel_rfl
noncomputable def b1N:Nat:=35
noncomputable def b1K:Nat:=220
noncomputable def b1O(P:Params):List (Nat × Obj):=[(3,nsAt P 10 (sv "framerune.faults" 187) 10),(12,cut P 12 3),(31,cl "RuneError" [.type "Exception"] [rv 31,.type "Exception",.type "BaseException",.type "object"] 30 [] [some (rv 15),none,some (sv "RuneError" 189),some (sv "RuneError" 197),some (.builtin "Exception.__new__"),some (.bool true)])]
theorem pc1:∀w:World,(fun os=>segRunT treeTable pw w 11 topAnn 1 240 (stT w os b0N b0K (b0O w.params)) (piecesOf (grp 0 2) topEnv topCode ⟨0,0,0,0⟩ topB))=fun os=>some (Flow.next,stT w os b1N b1K (b1O w.params),topCode,⟨2,0,6,20⟩):=by
 intro w;rw[Qi,Qh];kernel_rfl
noncomputable def b2N:Nat:=47
noncomputable def b2K:Nat:=236
noncomputable def b2O(P:Params):List (Nat × Obj):=[(3,nsAt P 11 (sv "framerune.faults" 187) 11),(12,cut P 12 6),(31,cl "RuneError" [.type "Exception"] [rv 31,.type "Exception",.type "BaseException",.type "object"] 30 [rv 44] [some (rv 15),none,some (sv "RuneError" 189),some (sv "RuneError" 197),some (.builtin "Exception.__new__"),some (.bool true)])]
theorem pc2:∀w:World,(fun os=>segRunT treeTable pw w 11 topAnn 1 214 (stT w os b1N b1K (b1O w.params)) (piecesOf (grp 2 1) topEnv topCode ⟨2,0,6,20⟩ topB))=fun os=>some (Flow.next,stT w os b2N b2K (b2O w.params),topCode,⟨7,0,8,8⟩):=by
 intro w;rw[Qi,Qh];kernel_rfl
noncomputable def b3N:Nat:=59
noncomputable def b3K:Nat:=292
noncomputable def b3O(P:Params):List (Nat × Obj):=[(3,nsAt P 31 (sv "framerune.kinds" 252) 31),(12,cut P 12 9)]
theorem pc3:∀w:World,(fun os=>segRunT treeTable pw w 11 topAnn 1 394 (stT w os b2N b2K (b2O w.params)) (piecesOf (grp 3 21) topEnv topCode ⟨7,0,8,8⟩ topB))=fun os=>some (Flow.next,stT w os b3N b3K (b3O w.params),topCode,⟨30,0,30,7⟩):=by
 intro w;rw[Qi,Qh];kernel_rfl
noncomputable def b4N:Nat:=60
noncomputable def b4K:Nat:=341
noncomputable def b4O(P:Params):List (Nat × Obj):=[(3,nsAt P 42 (sv "framerune.kinds" 252) 42),(12,cut P 12 9)]
theorem pc4:∀w:World,(fun os=>segRunT treeTable pw w 11 topAnn 1 297 (stT w os b3N b3K (b3O w.params)) (piecesOf (grp 24 11) topEnv topCode ⟨30,0,30,7⟩ topB))=fun os=>some (Flow.next,stT w os b4N b4K (b4O w.params),topCode,⟨41,0,41,8⟩):=by
 refine byRow2 "special-get-raises" ?_ ?_<;>(intro w;rw[Qi,Qh];kernel_rfl)
noncomputable def b5N:Nat:=61
noncomputable def b5K:Nat:=372
noncomputable def b5O(P:Params):List (Nat × Obj):=[(3,nsAt P 44 (sv "framerune.kinds" 252) 44),(12,cut P 12 9)]
theorem pc5:∀w:World,(fun os=>segRunT treeTable pw w 11 topAnn 1 216 (stT w os b4N b4K (b4O w.params)) (piecesOf (grp 35 2) topEnv topCode ⟨41,0,41,8⟩ topB))=fun os=>some (Flow.next,stT w os b5N b5K (b5O w.params),topCode,⟨43,0,43,9⟩):=by
 refine byRow2 "special-get-raises" ?_ ?_<;>(intro w;rw[Qi,Qh];kernel_rfl)
noncomputable def b6N:Nat:=117
noncomputable def b6K:Nat:=451
noncomputable def b6O(P:Params):List (Nat × Obj):=[(3,nsAt P 48 (sv "framerune.kinds" 252) 48),(12,cut P 12 21)]
theorem pc6:∀w:World,(fun os=>segRunT treeTable pw w 11 topAnn 1 387 (stT w os b5N b5K (b5O w.params)) (piecesOf (grp 37 4) topEnv topCode ⟨43,0,43,9⟩ topB))=fun os=>some (Flow.next,stT w os b6N b6K (b6O w.params),topCode,⟨106,0,111,12⟩):=by
 intro w;rw[Qi,Qh];kernel_rfl
noncomputable def b7N:Nat:=180
noncomputable def b7K:Nat:=556
noncomputable def b7O(P:Params):List (Nat × Obj):=[(3,nsAt P 69 (sv "framerune.csbound" 532) 69),(12,cut P 12 48)]
theorem pc7:∀w:World,(fun os=>segRunT treeTable pw w 11 topAnn 1 395 (stT w os b6N b6K (b6O w.params)) (piecesOf (grp 41 22) topEnv topCode ⟨106,0,111,12⟩ topB))=fun os=>some (Flow.next,stT w os b7N b7K (b7O w.params),topCode,⟨182,0,182,8⟩):=by
 intro w;rw[Qi,Qh];kernel_rfl
noncomputable def b8N:Nat:=180
noncomputable def b8K:Nat:=644
noncomputable def b8O(P:Params):List (Nat × Obj):=[(3,nsAt P 113 (sv "framerune.csbound" 532) 113),(12,cut P 12 48)]
theorem pc8:∀w:World,(fun os=>segRunT treeTable pw w 11 topAnn 1 397 (stT w os b7N b7K (b7O w.params)) (piecesOf (grp 63 44) topEnv topCode ⟨182,0,182,8⟩ topB))=fun os=>some (Flow.next,stT w os b8N b8K (b8O w.params),topCode,⟨226,0,226,8⟩):=by
 intro w;rw[Qi,Qh];kernel_rfl
noncomputable def b9N:Nat:=180
noncomputable def b9K:Nat:=656
noncomputable def b9O(P:Params):List (Nat × Obj):=[(3,nsAt P 119 (sv "framerune.csbound" 532) 119),(12,cut P 12 48)]
theorem pc9:∀w:World,(fun os=>segRunT treeTable pw w 11 topAnn 1 55 (stT w os b8N b8K (b8O w.params)) (piecesOf (grp 107 6) topEnv topCode ⟨226,0,226,8⟩ topB))=fun os=>some (Flow.next,stT w os b9N b9K (b9O w.params),topCode,⟨232,0,232,6⟩):=by
 intro w;rw[Qi,Qh];kernel_rfl
noncomputable def b10N:Nat:=251
noncomputable def b10K:Nat:=726
noncomputable def b10O(P:Params):List (Nat × Obj):=[(3,nsAt P 120 (sv "framerune.csbound" 532) 120),(12,cut P 12 48)]
theorem pc10:∀w:World,(fun os=>segRunT treeTable pw w 11 topAnn 1 709 (stT w os b9N b9K (b9O w.params)) (piecesOf (grp 113 1) topEnv topCode ⟨232,0,232,6⟩ topB))=fun os=>some (Flow.next,stT w os b10N b10K (b10O w.params),topCode,⟨233,0,233,10⟩):=by
 refine byRow2 "special-get-raises" ?_ ?_<;>(intro w;rw[Qi,Qh];kernel_rfl)
noncomputable def b11N:Nat:=316
noncomputable def b11K:Nat:=810
noncomputable def b11O(P:Params):List (Nat × Obj):=[(3,nsAt P 128 (sv "framerune.sourceops" 808) 128),(12,cut P 12 69)]
theorem pc11:∀w:World,(fun os=>segRunT treeTable pw w 11 topAnn 1 391 (stT w os b10N b10K (b10O w.params)) (piecesOf (grp 114 9) topEnv topCode ⟨233,0,233,10⟩ topB))=fun os=>some (Flow.next,stT w os b11N b11K (b11O w.params),topCode,⟨285,0,285,8⟩):=by
 refine byRow2 "special-get-raises" ?_ ?_<;>(intro w;rw[Qi,Qh];kernel_rfl)
noncomputable def b12N:Nat:=359
noncomputable def b12K:Nat:=880
noncomputable def b12O(P:Params):List (Nat × Obj):=[(3,nsAt P 138 (sv "framerune.sourcesplit" 819) 138),(12,cut P 12 78)]
theorem pc12:∀w:World,(fun os=>segRunT treeTable pw w 11 topAnn 1 394 (stT w os b11N b11K (b11O w.params)) (piecesOf (grp 123 11) topEnv topCode ⟨285,0,285,8⟩ topB))=fun os=>some (Flow.next,stT w os b12N b12K (b12O w.params),topCode,⟨311,0,317,16⟩):=by
 intro w;rw[Qi,Qh];kernel_rfl
noncomputable def b13N:Nat:=443
noncomputable def b13K:Nat:=998
noncomputable def b13O(P:Params):List (Nat × Obj):=[(3,nsAt P 150 (sv "framerune.sourcesplit" 819) 150),(12,cut P 12 114)]
theorem pc13:∀w:World,(fun os=>segRunT treeTable pw w 11 topAnn 1 383 (stT w os b12N b12K (b12O w.params)) (piecesOf (grp 134 12) topEnv topCode ⟨311,0,317,16⟩ topB))=fun os=>some (Flow.next,stT w os b13N b13K (b13O w.params),topCode,⟨399,0,409,15⟩):=by
 intro w;rw[Qi,Qh];kernel_rfl
noncomputable def b14N:Nat:=527
noncomputable def b14K:Nat:=1131
noncomputable def b14O(P:Params):List (Nat × Obj):=[(3,nsAt P 162 (sv "framerune.sourcesplit" 819) 162),(12,cut P 12 150)]
theorem pc14:∀w:World,(fun os=>segRunT treeTable pw w 11 topAnn 1 398 (stT w os b13N b13K (b13O w.params)) (piecesOf (grp 146 12) topEnv topCode ⟨399,0,409,15⟩ topB))=fun os=>some (Flow.next,stT w os b14N b14K (b14O w.params),topCode,⟨526,0,527,55⟩):=by
 intro w;rw[Qi,Qh];kernel_rfl
noncomputable def b15N:Nat:=604
noncomputable def b15K:Nat:=1261
noncomputable def b15O(P:Params):List (Nat × Obj):=[(3,nsAt P 173 (sv "law_xm0339_01" 1235) 173),(12,cut P 12 183)]
theorem pc15:∀w:World,(fun os=>segRunT treeTable pw w 11 topAnn 1 380 (stT w os b14N b14K (b14O w.params)) (piecesOf (grp 158 12) topEnv topCode ⟨526,0,527,55⟩ topB))=fun os=>some (Flow.next,stT w os b15N b15K (b15O w.params),topCode,⟨620,0,624,14⟩):=by
 intro w;rw[Qi,Qh];kernel_rfl
noncomputable def b16N:Nat:=688
noncomputable def b16K:Nat:=1392
noncomputable def b16O(P:Params):List (Nat × Obj):=[(3,nsAt P 185 (sv "law_xm0339_01" 1235) 185),(12,cut P 12 219)]
theorem pc16:∀w:World,(fun os=>segRunT treeTable pw w 11 topAnn 1 396 (stT w os b15N b15K (b15O w.params)) (piecesOf (grp 170 12) topEnv topCode ⟨620,0,624,14⟩ topB))=fun os=>some (Flow.next,stT w os b16N b16K (b16O w.params),topCode,⟨709,0,717,110⟩):=by
 intro w;rw[Qi,Qh];kernel_rfl
noncomputable def b17N:Nat:=768
noncomputable def b17K:Nat:=1510
noncomputable def b17O(P:Params):List (Nat × Obj):=[(3,nsAt P 197 (sv "law_xm0339_01" 1235) 197),(12,cut P 12 255)]
theorem pc17:∀w:World,(fun os=>segRunT treeTable pw w 11 topAnn 1 379 (stT w os b16N b16K (b16O w.params)) (piecesOf (grp 182 12) topEnv topCode ⟨709,0,717,110⟩ topB))=fun os=>some (Flow.next,stT w os b17N b17K (b17O w.params),topCode,⟨808,0,818,42⟩):=by
 intro w;rw[Qi,Qh];kernel_rfl
noncomputable def b18N:Nat:=850
noncomputable def b18K:Nat:=1618
noncomputable def b18O(P:Params):List (Nat × Obj):=[(3,nsAt P 209 (sv "law_xm0339_01" 1235) 209),(12,cut P 12 291)]
theorem pc18:∀w:World,(fun os=>segRunT treeTable pw w 11 topAnn 1 371 (stT w os b17N b17K (b17O w.params)) (piecesOf (grp 194 12) topEnv topCode ⟨808,0,818,42⟩ topB))=fun os=>some (Flow.next,stT w os b18N b18K (b18O w.params),topCode,⟨922,0,927,15⟩):=by
 intro w;rw[Qi,Qh];kernel_rfl
noncomputable def b19N:Nat:=890
noncomputable def b19K:Nat:=1678
noncomputable def b19O(P:Params):List (Nat × Obj):=[]
theorem pc19:∀w:World,(fun os=>segRunT treeTable pw w 11 topAnn 1 191 (stT w os b18N b18K (b18O w.params)) (piecesOf (grp 206 6) topEnv topCode ⟨922,0,927,15⟩ topB))=fun os=>some (Flow.next,stT w os b19N b19K (b19O w.params),topCode,⟨1011,0,1022,15⟩):=by
 intro w;rw[Qi,Qh];kernel_rfl
end
theorem non{α:Type}{a:α}{P:Prop}(h:none=some a):P:=nomatch h
inductive V where
 |none
 |bool (b:Bool)
 |int (i:Int)
 |str (n:Nat)
 |tup (xs:List V)
 |flist (xs:List V)
 |ref (i:Nat)
 |gd (t:Nat)
inductive MObj where
 |list (xs:List V)
 |idict (kvs:List (Int × V))
 |sdict (kvs:List (Nat × V))
 |inst (c:Addr)(d:Nat)
 |adict (kvs:List (Nat × V))
 |tdict (kvs:List (V × V))
 |any
inductive Lv where
 |v (x:V)
 |o (xs:List V)
noncomputable abbrev LIM:Nat:=16777216
noncomputable abbrev Rho:=List (Nat × Lv)
noncomputable abbrev Sg:=List MObj
noncomputable def Rho.get:Rho→Nat→Option Lv:=fun r x=>List.rec none (fun p _ ih=>@Bool.rec (fun _=>Option Lv) ih (some p.2) (Nat.beq x p.1)) r
noncomputable def Rho.put:Rho→Nat→Lv→Rho:=fun r x v=>List.rec [(x,v)] (fun p r ih=>@Bool.rec (fun _=>Rho) (p::ih) ((x,v)::r) (Nat.beq x p.1)) r
theorem nbeq(x:Nat){y:Nat}(h:x≠y):Nat.beq x y=false:=by
 cases e:Nat.beq x y with
 |false=>rfl
 |true=>exact absurd (Qy e) h
theorem Rho.get_self(ρ:Rho)(x:Nat)(v:Lv):(ρ.put x v).get x=some v:=by
 induction ρ with
 |nil=>exact congrArg (@Bool.rec (fun _=>Option Lv) none (some v)) (Nat.beq_refl x)
 |cons p r ih=>
  cases h:Nat.beq x p.1 with
  |true=>exact(congrArg (fun t=>Rho.get (@Bool.rec (fun _=>Rho) (p::Rho.put r x v) ((x,v)::r) t) x) h).trans (congrArg (@Bool.rec (fun _=>Option Lv) (Rho.get r x) (some v)) (Nat.beq_refl x))
  |false=>exact(congrArg (fun t=>Rho.get (@Bool.rec (fun _=>Rho) (p::Rho.put r x v) ((x,v)::r) t) x) h).trans ((congrArg (@Bool.rec (fun _=>Option Lv) (Rho.get (Rho.put r x v) x) (some p.2)) h).trans ih)
theorem Rho.get_ne(ρ:Rho)(x:Nat)(v:Lv){y:Nat}(hy:y≠x):(ρ.put x v).get y=ρ.get y:=by
 induction ρ with
 |nil=>exact congrArg (@Bool.rec (fun _=>Option Lv) none (some v)) (nbeq y hy)
 |cons p r ih=>
  cases h:Nat.beq x p.1 with
  |true=>
   have e:=Qy h
   exact(congrArg (fun t=>Rho.get (@Bool.rec (fun _=>Rho) (p::Rho.put r x v) ((x,v)::r) t) y) h).trans ((congrArg (@Bool.rec (fun _=>Option Lv) (Rho.get r y) (some v)) (nbeq y hy)).trans (congrArg (@Bool.rec (fun _=>Option Lv) (Rho.get r y) (some p.2)) (nbeq y fun q=>hy (q.trans e.symm))).symm)
  |false=>exact(congrArg (fun t=>Rho.get (@Bool.rec (fun _=>Rho) (p::Rho.put r x v) ((x,v)::r) t) y) h).trans (congrArg (fun t=>@Bool.rec (fun _=>Option Lv) t (some p.2) (Nat.beq y p.1)) ih)
theorem Rho.of_put{ρ:Rho}{x y:Nat}{v l:Lv}(h:(ρ.put x v).get y=some l):(y=x∧l=v)∨(y≠x∧ρ.get y=some l):=
 (Nat.decEq y x).rec (fun e=>.inr ⟨e,(ρ.get_ne x v e).symm.trans h⟩) fun e=>.inl ⟨e,by subst e;exact Ql (h.symm.trans (ρ.get_self y v))⟩
noncomputable def knames:List String:=["script","at","mix","number","of","within","grabs","left","c","e","made","heard","log","stop","seen","cells","held","hole","caught","lids","ready",
 "lambda","await","call","yield","==","!","kt","count","rows","index","depths","weights","opens","slot","put"]
noncomputable def kn(n:Nat):Str:=Str.ofString (knames.getD n "")
theorem kn_all:∀n:Fin 36,∀m:Fin 36,kn n=kn m→n=m:=by decide +kernel
theorem kn_inj{n m:Nat}(hn:n < 36)(hm:m < 36)(e:kn n=kn m):n=m:=congrArg Fin.val (kn_all ⟨n,hn⟩ ⟨m,hm⟩ e)
structure Cx where
 w:World
 base:Heap
 os:OsState
structure Gh where
 φ:Addr→Option Obj
 ι:List Addr
inductive F2{α β:Type}(R:α→β→Prop):List α→List β→Prop where
 |nil:F2 R [] []
 |cons {a b as bs}:R a b→F2 R as bs→F2 R (a::as) (b::bs)
noncomputable def placeAddr:Nat→Nat
 |0=>180|1=>251|_=>60
inductive VRep(g:Gh):Value→V→Prop where
 |none:VRep g .none .none
 |bool (b):VRep g (.bool b) (.bool b)
 |int (i t):VRep g (.int i t) (.int i)
 |str (n t):n < 36→VRep g (.str (kn n) t) (.str n)
 |tup {a o vs n xs}:g.φ a=some o→o.cls=.type "tuple"→o.data=.seq (List.toArray vs) n→F2 (VRep g) vs xs→xs.length≤LIM→VRep g (.ref a) (.tup xs)
 |flist {a o vs n xs}:g.φ a=some o→o.cls=.type "list"→o.data=.seq (List.toArray vs) n→F2 (VRep g) vs xs→xs.length≤LIM→VRep g (.ref a) (.flist xs)
 |ref {a i}:g.ι[i]?=some a→VRep g (.ref a) (.ref i)
 |gd (t):VRep g (.ref (placeAddr t)) (.gd t)
noncomputable abbrev VReps(g:Gh):List Value→List V→Prop:=F2 (VRep g)
structure Gh.Le(g g':Gh):Prop where
 phi:∀a o,g.φ a=some o→g'.φ a=some o
 io:∀(i:Nat) (a:Addr),g.ι[i]?=some a→g'.ι[i]?=some a
theorem Gh.Le.refl(g:Gh):g.Le g:=⟨fun _ _ e=>e,fun _ _ e=>e⟩
theorem Gh.Le.trans{g g' g'':Gh}(x:g.Le g')(y:g'.Le g''):g.Le g'':=⟨fun a o e=>y.phi a o (x.phi a o e),fun i a e=>y.io i a (x.io i a e)⟩
theorem VRep.mono{g g':Gh}(l:g.Le g'){v:Value}{x:V}(h:VRep g v x):VRep g' v x:=
 VRep.rec (motive_1:=fun v x _=>VRep g' v x) (motive_2:=fun vs xs _=>F2 (VRep g') vs xs) .none .bool .int .str
  (fun h1 h2 h3 _ h5 ih=>.tup (l.phi _ _ h1) h2 h3 ih h5) (fun h1 h2 h3 _ h5 ih=>.flist (l.phi _ _ h1) h2 h3 ih h5) (fun h=>.ref (l.io _ _ h)) .gd .nil (fun _ _ h1 h2=>.cons h1 h2) h
inductive SqI(g:Gh)(ty:String)(xs:List V)(u:Value):Prop
 |mk (a o vs n):u=.ref a→g.φ a=some o→o.cls=.type ty→o.data=.seq (List.toArray vs) n→VReps g vs xs→xs.length≤LIM→SqI g ty xs u
noncomputable def VInv(g:Gh)(u:Value)(v:V):Prop:=@V.casesOn (fun _=>Prop) v (u=.none) (fun b=>u=.bool b) (fun i=>∃t,u=.int i t) (fun n=>∃t,u=.str (kn n) t∧n < 36) (SqI g "tuple" · u) (SqI g "list" · u) (fun i=>∃a,u=.ref a∧g.ι[i]?=some a) (fun t=>u=.ref (placeAddr t))
theorem VRep.inv{g:Gh}{v:Value}{x:V}(h:VRep g v x):VInv g v x:=
 VRep.rec (motive_1:=fun v x _=>VInv g v x) (motive_2:=fun _ _ _=>True) rfl (fun _=>rfl) (fun _ t=>⟨t,rfl⟩) (fun _ t h=>⟨t,rfl,h⟩) (fun h1 h2 h3 h4 h5 _=>.mk _ _ _ _ rfl h1 h2 h3 h4 h5) (fun h1 h2 h3 h4 h5 _=>.mk _ _ _ _ rfl h1 h2 h3 h4 h5) (fun h=>⟨_,rfl,h⟩) (fun _=>rfl) trivial (fun _ _ _ _=>trivial) h
section
variable {α β:Type}{R R':α→β→Prop}{as:List α}{bs:List β}
theorem F2.mono(k:∀a b,R a b→R' a b)(h:F2 R as bs):F2 R' as bs:=by
 induction h with
 |nil=>exact .nil
 |cons h1 _ ih=>exact .cons (k _ _ h1) ih
theorem F2.length(h:F2 R as bs):as.length=bs.length:=by
 induction h with
 |nil=>rfl
 |cons _ _ ih=>exact congrArg Nat.succ ih
theorem F2.get(h:F2 R as bs):∀{i:Nat}{b:β},bs[i]?=some b→∃a,as[i]?=some a∧R a b:=by
 induction h with
 |nil=>exact fun e=>non e
 |cons h1 _ ih=>
  intro i b e
  induction i with
  |zero=>exact⟨_,rfl,Ql e▸h1⟩
  |succ i=>exact ih (i:=i) e
theorem F2.append{as':List α}{bs':List β}(h:F2 R as bs)(h':F2 R as' bs'):F2 R (as++as') (bs++bs'):=by
 induction h with
 |nil=>exact h'
 |cons h1 _ ih=>exact .cons h1 ih
theorem F2.take(h:F2 R as bs):∀n,F2 R (as.take n) (bs.take n):=by
 induction h with
 |nil=>intro n;induction n<;>exact .nil
 |cons h1 _ ih=>
  intro n
  induction n with
  |zero=>exact .nil
  |succ n=>exact .cons h1 (ih n)
theorem F2.drop(h:F2 R as bs):∀n,F2 R (as.drop n) (bs.drop n):=by
 induction h with
 |nil=>intro n;induction n<;>exact .nil
 |cons h1 h2 ih=>
  intro n
  induction n with
  |zero=>exact .cons h1 h2
  |succ n=>exact ih n
theorem F2.set{a:α}{b:β}(hv:R a b)(h:F2 R as bs):∀n,F2 R (as.set n a) (bs.set n b):=by
 induction h with
 |nil=>exact fun _=>.nil
 |cons h1 h2 ih=>
  intro n
  induction n with
  |zero=>exact .cons hv h2
  |succ n=>exact .cons h1 (ih n)
end
theorem VReps.mono{g g':Gh}(l:g.Le g'){vs:List Value}{xs:List V}(h:VReps g vs xs):VReps g' vs xs:=F2.mono (fun _ _=>VRep.mono l) h
noncomputable abbrev PReps{K:Type}(g:Gh):List (K × Value)→List (K × V)→Prop:=F2 fun p q=>p.1=q.1∧VRep g p.2 q.2
theorem PReps.mono{K:Type}{g g':Gh}(l:g.Le g'){ps:List (K × Value)}{kvs:List (K × V)}(h:PReps g ps kvs):PReps g' ps kvs:=F2.mono (fun _ _ h=>⟨h.1,h.2.mono l⟩) h
noncomputable def strKeys(ps:List (Nat × Value)):List (Str × Value):=ps.map fun p=>(kn p.1,p.2)
noncomputable abbrev TK:=Int × Int × Bool
noncomputable def zHash(t:TK):Int:=@Bool.rec (fun _=>Int) (reduceHash (Builtin.Tuple.tupleHashOf [hashInt t.1,hashInt t.2.1])) (reduceHash (Builtin.Tuple.tupleHashOf [hashInt t.1,hashInt t.2.1,reduceHash (Builtin.Tuple.tupleHashOf [])])) t.2.2
inductive TkOf:V→TK→Prop where
 |two (a b):TkOf (.tup [.int a,.int b]) (a,b,false)
 |three (a b):TkOf (.tup [.int a,.int b,.tup []]) (a,b,true)
structure TEnt(g:Gh)(e:DictEntry)(p:V × V):Prop where
 h:∃t,TkOf p.1 t∧e.hash=zHash t
 k:VRep g e.key p.1
 v:VRep g e.val p.2
structure TRep(g:Gh)(h:Heap)(a:Addr)(kvs:List (V × V)):Prop where
 ex:∃o es ep,h.get? a=some o∧o.ExactDict∧o.data=.dict (List.toArray es) ep∧F2 (TEnt g) es kvs
 nd:kvs.Pairwise fun p q=>∀t,TkOf p.1 t→¬TkOf q.1 t
structure AEnt(g:Gh)(e:DictEntry)(p:Nat × V):Prop where
 lt:p.1 < 36
 k:∃t,e.key=.str (kn p.1) t
 v:VRep g e.val p.2
noncomputable abbrev Keep(h h':Heap)(a:Addr):Prop:=∀o,h.get? a=some o→h'.get? a=some o
noncomputable abbrev Live(h:Heap)(a:Addr):Prop:=∃o,h.get? a=some o
structure PList(g:Gh)(h:Heap)(a:Addr)(xs:List V):Prop where
 ex:∃vs:List Value,h.PlainList a vs.toArray∧VReps g vs xs
 sz:xs.length≤LIM
theorem PList.mono{g g':Gh}{h h':Heap}{a:Addr}{xs:List V}(l:g.Le g')(e:Keep h h' a)(x:PList g h a xs):PList g' h' a xs:=by
 obtain⟨vs,⟨n,h1⟩,h2⟩:=x.ex
 exact⟨⟨vs,⟨n,e _ h1⟩,h2.mono l⟩,x.sz⟩
theorem PList.live{g:Gh}{h:Heap}{a:Addr}{xs:List V}(x:PList g h a xs):Live h a:=by
 obtain⟨vs,⟨n,h1⟩,h2⟩:=x.ex
 exact⟨_,h1⟩
noncomputable def MRep(X:Cx)(g:Gh)(h:Heap)(a:Addr)(m:MObj):Prop:=@MObj.casesOn (fun _=>Prop) m (fun xs=>PList g h a xs) (fun kvs=>∃ps,h.DictOf (intKind pw X.w) a ps∧PReps g ps kvs)
 (fun kvs=>∃ps,h.DictOf (strKind pw X.w) a (strKeys ps)∧PReps g ps kvs∧∀p∈kvs,p.1 < 36) (fun c od=>∃d,g.ι[od]?=some d∧h.get? a=some {cls:=.ref c,dict:=some d,data:=.plain}∧(c=91∨c=347))
 (fun kvs=>∃es n,h.get? a=some {cls:=.type "dict",data:=.dict (List.toArray es) n}∧F2 (AEnt g) es kvs) (fun kvs=>TRep g h a kvs) True
theorem DictOf_keep{K:Type} [DecidableEq K]{w:World}{knd:PySem.KeyKind pw w K}{h h':Heap}{a:Addr}{ps:List (K × Value)}(e:Keep h h' a)(x:h.DictOf knd a ps):h'.DictOf knd a ps:=by
 obtain⟨o,es,ep,q,r⟩:=x
 exact⟨o,es,ep,e _ q,r⟩
theorem MRep.mono{X:Cx}{g g':Gh}{h h':Heap}{a:Addr}(l:g.Le g')(e:Keep h h' a){m:MObj}(x:MRep X g h a m):MRep X g' h' a m:=by
 induction m with
 |list xs=>exact PList.mono l e x
 |idict kvs=>obtain⟨ps,h1,h2⟩:=x;exact⟨ps,DictOf_keep e h1,h2.mono l⟩
 |sdict kvs=>obtain⟨ps,h1,h2⟩:=x;exact⟨ps,DictOf_keep e h1,h2.1.mono l,h2.2⟩
 |inst c od=>obtain⟨d,h1,h2⟩:=x;exact⟨d,l.io _ _ h1,e _ h2.1,h2.2⟩
 |any=>exact x
 |adict kvs=>obtain⟨es,n,h1⟩:=x;exact⟨es,n,e _ h1.1,h1.2.mono fun _ _ q=>⟨q.lt,q.k,q.v.mono l⟩⟩
 |tdict kvs=>
  obtain⟨⟨o,es,ep,h1,h2⟩,nd⟩:=x
  exact⟨⟨o,es,ep,e _ h1,h2.1,h2.2.1,h2.2.2.mono fun _ _ q=>⟨q.h,q.k.mono l,q.v.mono l⟩⟩,nd⟩
structure HInv(X:Cx)(g:Gh)(σ:Sg)(s:Shared):Prop where
 base:∀b o,X.base.get? b=some o→g.φ b=some o
 frz:∀a o,g.φ a=some o→s.heap.get? a=some o
 gens:s.gens=#[]
 os:s.os=X.os
 len:g.ι.length=σ.length
 ob:∀(i:Nat) (m:MObj) (a:Addr),σ[i]?=some m→g.ι[i]?=some a→MRep X g s.heap a m
 inj:g.ι.Nodup
 unf:∀a,a∈g.ι→g.φ a=none
 lv:∀a,a∈g.ι→Live s.heap a
noncomputable abbrev Al:=Nat→Option Addr
noncomputable def Al.none:Al:=fun _=>Option.none
structure FStep(P:Addr→Prop)(g:Gh)(α:Al)(h:Heap)(g':Gh)(α':Al)(h':Heap):Prop where
 le:g.Le g'
 live:∀a,Live h a→Live h' a
 kept:∀a,a∉g.ι→(∀i,α i≠some a)→¬P a→Keep h h' a
 newi:∀a,a∈g'.ι→a∈g.ι∨h.get? a=none
 newo:∀i a,α' i=some a→α i=some a∨(h.get? a=none∧i≠0)
 newf:∀a o,g'.φ a=some o→g.φ a=some o∨(∃j,α j=some a)∨h.get? a=none
noncomputable def NoP:Addr→Prop:=fun _=>False
theorem dead_lv{h:Heap}{a:Addr}(e:h.get? a=none):¬Live h a:=fun⟨_,q⟩=>nomatch e.symm.trans q
theorem none_of_live{h h':Heap}{a:Addr}(l:∀a,Live h a→Live h' a)(e:h'.get? a=none):h.get? a=none:=by
 cases hc:h.get? a with
 |none=>rfl
 |some o=>exact(dead_lv e (l a ⟨o,hc⟩)).elim
theorem FStep.refl(P:Addr→Prop)(g:Gh)(α:Al)(h:Heap):FStep P g α h g α h:=
 ⟨.refl _,fun _ x=>x,fun _ _ _ _ _ e=>e,fun _ x=>.inl x,fun i _ x=>.inl x,fun _ _ e=>.inl e⟩
theorem FStep.trans{P:Addr→Prop}{g g' g'':Gh}{α α' α'':Al}{h h' h'':Heap}(x:FStep P g α h g' α' h')(y:FStep P g' α' h' g'' α'' h''):FStep P g α h g'' α'' h'' where
 le:=x.le.trans y.le
 live:=fun a l=>y.live a (x.live a l)
 kept:=fun a hi ho hp o e=>y.kept a (fun q=>(x.newi a q).elim hi fun q=>dead_lv q ⟨_,e⟩) (fun i q=>(x.newo i a q).elim (ho i) fun q=>dead_lv q.1 ⟨_,e⟩) hp o (x.kept a hi ho hp o e)
 newi:=fun a ha=>(y.newi a ha).elim (x.newi a) fun q=>.inr (none_of_live x.live q)
 newo:=fun i a ha=>(y.newo i a ha).elim (x.newo i a) fun q=>.inr ⟨none_of_live x.live q.1,q.2⟩
 newf:=fun a o e=>(y.newf a o e).elim (x.newf a o) fun q=>.inr (q.elim (fun⟨j,q⟩=>(x.newo j a q).imp (fun w=>⟨j,w⟩) fun w=>w.1) fun q=>.inr (none_of_live x.live q))
theorem IsCell_keep{h h':Heap}{c:Addr} {v}(e:Keep h h' c)(x:h.IsCell c v):h'.IsCell c v:=by
 obtain⟨o,ho,r⟩:=x
 exact⟨o,e _ ho,r⟩
theorem Ns_keep{h h':Heap}{c:Addr} {v}(e:Keep h h' c)(x:h.Ns c v):h'.Ns c v:=by
 obtain⟨o,es,ep,ho,r⟩:=x
 exact⟨o,es,ep,e _ ho,r⟩
section
variable {X:Cx}{g:Gh}{σ:Sg}{s:Shared}
theorem HInv.same{s':Shared}(x:HInv X g σ s)(ho:s'.os=s.os)(hg:s'.gens=s.gens)(hk:∀a,(a∈g.ι∨g.φ a≠none)→Keep s.heap s'.heap a):HInv X g σ s' where
 base:=x.base
 frz:=fun a o e=>hk a (.inr fun q=>nomatch q.symm.trans e) o (x.frz a o e)
 gens:=hg.trans x.gens
 os:=ho.trans x.os
 len:=x.len
 ob:=fun i m a h1 h2=>(x.ob i m a h1 h2).mono (.refl _) (hk a (.inl (Qz h2)))
 inj:=x.inj
 unf:=x.unf
 lv:=fun a ha=>by
  obtain⟨o,h⟩:=x.lv a ha
  exact⟨o,hk a (.inl ha) o h⟩
theorem get?_none_size (h:Heap):h.get? h.objs.size=none:=by
 cases hc:h.get? h.objs.size with
 |none=>rfl
 |some o=>exact absurd (Heap.lt_size hc) (Nat.lt_irrefl _)
theorem HInv.fresh(x:HInv X g σ s){a:Addr}(ha:s.heap.get? a=none):g.φ a=none∧a∉g.ι:=by
 refine⟨?_,fun h=>dead_lv ha (x.lv _ h)⟩
 cases hc:g.φ a with
 |none=>rfl
 |some o=>exact(dead_lv ha ⟨o,x.frz _ _ hc⟩).elim
theorem HInv.grown(x:HInv X g σ s){h':Heap}{t:Tok}(hk:∀a,Keep s.heap h' a):HInv X g σ {s with heap:=h',toks:=t}:=x.same rfl rfl fun a _=>hk a
theorem HInv.tok(x:HInv X g σ s)(t:Tok):HInv X g σ {s with toks:=t}:=x.grown (h':=s.heap) fun _ _ e=>e
end
theorem FStep.up{P:Addr→Prop}{g g':Gh}{α:Al}{h h':Heap}(st:FStep NoP g Al.none h g' Al.none h'):FStep P g α h g' α h' where
 le:=st.le
 live:=st.live
 kept:=fun a hi _ _=>st.kept a hi (fun _ e=>non e) fun e=>e
 newi:=st.newi
 newo:=fun i a e=>.inl e
 newf:=fun a o e=>(st.newf a o e).elim .inl fun q=>q.elim (fun⟨_,q⟩=>non q) fun q=>.inr (.inr q)
theorem FStep.grown{g:Gh}{h h':Heap}(hk:∀a,Keep h h' a):FStep NoP g Al.none h g Al.none h':=
 ⟨.refl _,fun a ⟨o,e⟩=>⟨o,hk a o e⟩,fun a _ _ _=>hk a,fun _ x=>.inl x,fun _ _ e=>(non e),fun _ _ e=>.inl e⟩
noncomputable def Gh.fz(g:Gh)(a:Addr)(o:Obj):Gh:=⟨fun b=>if b=a then some o else g.φ b,g.ι⟩
theorem Gh.fz_ne{g:Gh}{a b:Addr}{o:Obj}(h:b≠a):(g.fz a o).φ b=g.φ b:=if_neg h
theorem Gh.fz_self(g:Gh)(a:Addr)(o:Obj):(g.fz a o).φ a=some o:=if_pos rfl
theorem Gh.fz_of{g:Gh}{a b:Addr}{o p:Obj}(h:(g.fz a o).φ b=some p):(b=a∧p=o)∨g.φ b=some p:=
 if e:b=a then .inl ⟨e,by subst e;exact Ql (h.symm.trans (g.fz_self b o))⟩else .inr ((Gh.fz_ne e).symm.trans h)
theorem Gh.Le.fz{g:Gh}{a:Addr}{o:Obj}(h:g.φ a=none):g.Le (g.fz a o):=⟨fun _ _ e=>(Gh.fz_ne (by rintro rfl;exact nomatch h.symm.trans e)).trans e,fun _ _ e=>e⟩
theorem FStep.fz{g:Gh}{h h':Heap}{a:Addr}{o:Obj}(hn:g.φ a=none)(ha:h.get? a=none)(hk:∀a,Keep h h' a):FStep NoP g Al.none h (g.fz a o) Al.none h':=
 ⟨.fz hn,fun a ⟨o,e⟩=>⟨o,hk a o e⟩,fun a _ _ _=>hk a,fun _ h=>.inl h,fun _ _ e=>(non e),fun _ _ e=>(Gh.fz_of e).elim (fun q=>.inr (.inr (q.1▸ha))) .inl⟩
noncomputable def Gh.al(g:Gh)(a:Addr):Gh:=⟨g.φ,g.ι++[a]⟩
theorem Gh.Le.al{g:Gh}{a:Addr}:g.Le (g.al a):=⟨fun _ _ e=>e,fun i b e=>(Qp (Qc.mp e).1).trans e⟩
theorem Gh.al_self(g:Gh)(a:Addr):(g.al a).ι[g.ι.length]?=some a:=Qx
theorem Gh.al_of{g:Gh}{a b:Addr}(h:b∈(g.al a).ι):b∈g.ι∨b=a:=(QI.mp h).imp id Qk.mp
theorem FStep.al{g:Gh}{h h':Heap}{a:Addr}(ha:h.get? a=none)(hk:∀a,Keep h h' a):FStep NoP g Al.none h (g.al a) Al.none h':=
 ⟨.al,fun a ⟨o,e⟩=>⟨o,hk a o e⟩,fun a _ _ _=>hk a,fun b hb=>(Gh.al_of hb).imp id fun(q:b=a)=>q▸ha,fun _ _ e=>(non e),fun _ _ e=>.inl e⟩
section
variable {X:Cx}{g:Gh}{σ:Sg}{s:Shared}
theorem HInv.fz(x:HInv X g σ s){a:Addr}{o:Obj}(hn:g.φ a=none)(hi:a∉g.ι)(ho:s.heap.get? a=some o):HInv X (g.fz a o) σ s where
 base:=fun b p e=>(Gh.Le.fz hn).phi b p (x.base b p e)
 frz:=fun b p e=>(Gh.fz_of e).elim (fun q=>by rw[q.1,q.2];exact ho) (x.frz b p)
 gens:=x.gens
 os:=x.os
 len:=x.len
 ob:=fun i m b h1 h2=>(x.ob i m b h1 h2).mono (.fz hn) fun _ e=>e
 inj:=x.inj
 unf:=fun b hb=>(Gh.fz_ne (by rintro rfl;exact hi hb)).trans (x.unf b hb)
 lv:=x.lv
theorem HInv.al(x:HInv X g σ s){a:Addr}{m:MObj}(hn:g.φ a=none)(hi:a∉g.ι)(hl:Live s.heap a)(hm:MRep X (g.al a) s.heap a m):HInv X (g.al a) (σ++[m]) s where
 base:=x.base
 frz:=x.frz
 gens:=x.gens
 os:=x.os
 len:=(Qb.trans (congrArg (·+ 1) x.len)).trans Qb.symm
 ob:=fun i m' b h1 h2=>by
  rcases Nat.lt_trichotomy i σ.length with hlt|heq|hgt
  ·rw[Qp hlt]at h1
   exact(x.ob i m' b h1 ((Qp (x.len▸hlt)).symm.trans h2)).mono .al fun _ e=>e
  ·subst heq
   have e1:m=m':=Ql (Qx.symm.trans h1)
   have e2:a=b:=Ql ((x.len▸g.al_self a).symm.trans h2)
   exact e1▸e2▸hm
  ·rw[QS (Qb▸hgt)]at h1
   exact non h1
 inj:=List.nodup_append.mpr ⟨x.inj,QU.mpr ⟨List.not_mem_nil,.nil⟩,fun b hb c hc e=>hi (Qk.mp hc▸e▸hb)⟩
 unf:=fun b hb=>(Gh.al_of hb).elim (x.unf b) fun q=>q▸hn
 lv:=fun b hb=>(Gh.al_of hb).elim (x.lv b) fun q=>q▸hl
theorem nodup_idx{α:Type}{l:List α}(hn:l.Nodup){i j:Nat}{a:α}(h1:l[i]?=some a)(h2:l[j]?=some a):i=j:=(List.getElem?_inj (Qc.mp h1).1 hn).mp (h1.trans h2.symm)
theorem HInv.upd(x:HInv X g σ s){i:Nat}{a:Addr}{m:MObj}{h':Heap}{t:Tok}(hi:g.ι[i]?=some a)(hs:Heap.SameBut a s.heap h')(hm:MRep X g h' a m)(hl:Live h' a):
  HInv X g (σ.set i m) {s with heap:=h',toks:=t} where
 base:=x.base
 frz:=fun b o e=>(hs.2 b (by rintro rfl;exact nomatch (x.unf _ (Qz hi)).symm.trans e)).trans (x.frz b o e)
 gens:=x.gens
 os:=x.os
 len:=x.len.trans QP.symm
 ob:=fun j m' b h1 h2=>by
  by_cases hj:j=i
  ·subst hj
   have e2:=Ql (hi.symm.trans h2)
   rw[List.getElem?_set_self (x.len▸(Qc.mp hi).1)]at h1
   exact Ql h1▸e2▸hm
  ·rw[List.getElem?_set_ne (Ne.symm hj)]at h1
   exact(x.ob j m' b h1 h2).mono (.refl _) fun o e=>(hs.2 b (by rintro rfl;exact hj (nodup_idx x.inj h2 hi))).trans e
 inj:=x.inj
 unf:=x.unf
 lv:=fun b hb=>by
  by_cases hb':b=a
  ·exact hb'▸hl
  ·obtain⟨o,e⟩:=x.lv b hb
   exact⟨o,(hs.2 b hb').trans e⟩
theorem FStep.upd{h h':Heap}{i:Nat}{a:Addr}(hi:g.ι[i]?=some a)(hs:Heap.SameBut a h h')(hl:Live h' a):FStep NoP g Al.none h g Al.none h':=
 ⟨.refl _,fun b ⟨o,e⟩=>by
  by_cases hb':b=a
  ·exact hb'▸hl
  ·exact⟨o,(hs.2 b hb').trans e⟩,fun b hb _ _ o e=>(hs.2 b (by rintro rfl;exact hb (Qz hi))).trans e,fun _ h=>.inl h,fun _ _ e=>(non e),fun _ _ e=>.inl e⟩
end
section
inductive Bop where|add|sub|mul|fdiv|mod
inductive Cop where|eq|ne|lt|gt|le|ge|isN|isntN|inn|notin
inductive Blt where|len|tuple|int|sum
set_option genCtorIdx false
mutual
inductive E where
 |bad|none|bool (b:Bool)|int (i:Int)|str (n:Nat)|tt|gd (t:Nat)
 |var (i:Nat)
 |tup (es:Es)|lst (es:Es)|newl (es:Es)|newi|newt|newd (ks:List Nat)(es:Es)
 |sub (a b:E)|upto (a b:E)|frm (a b:E)|mid (a b c:E)
 |attr (a:E)(n:Nat)
 |bin (o:Bop)(a b:E)|cmp (o:Cop)(a b:E)
 |bop (t:Bool)(es:Es)|not (a:E)|ite (c a b:E)
 |call (f:Nat)(es:Es)|callL (f:Nat)(es:Es)(x:Nat)|callF (f:Nat)(x:Nat)(es:Es)
 |blt (f:Blt)(a:E)
 |get (a k d:E)
 |new (c f:Nat)(es:Es)|meth (f:Nat)(a:E)(n:Nat)(es:Es)
 |compF (x:Nat)(it:E)|compS (x:Nat)(it:E)
inductive Es where
 |nil|cons (e:E)(es:Es)
end
mutual
inductive S where
 |asg (i:Nat)(e:E)|asgl (i:Nat)(es:Es)|asgt (i:Nat)(e:E)|unp (is:List Nat)(e:E)
 |seti (a k v:E)|setl (x:Nat)(k v:E)|seta (a:E)(n:Nat)(v:E)
 |aug (i:Nat)(e:E)
 |asgC (r:Bool)(i:Nat)(cap:List Nat)(elt:E)(x:Nat)(it:E)
 |app (x:Nat)(e:E)|ext (x:Nat)(e:E)|appr (a e:E)|popr (a:E)
 |ex (e:E)
 |iff (c:E)(a b:Ss)|whl (c:E)(a:Ss)|for1 (x:Nat)(it:E)(b:Ss)|for2 (x y:Nat)(it:E)(b:Ss)|forR (x:Nat)(it:E)(b:Ss)
 |ret (e:E)|ret0|brk|cont
inductive Ss where
 |nil|cons (s:S)(ss:Ss)|dead
end
set_option genCtorIdx true
structure Fn where
 np:Nat
 lends:Bool
 vars:List String
 gl:List Nat
 body:Ss
inductive Fl where|next|brk|cont|ret (v:V)
inductive GV where
 |int (i:Int)|ref (a:Nat)|bltn (s:String)|ty (s:String)
noncomputable def gvb(a b:GV):Bool:=@GV.casesOn (fun _=>Bool) a (fun i=>@GV.casesOn (fun _=>Bool) b (fun j=>i==j) (fun _=>false) (fun _=>false) fun _=>false) (fun i=>@GV.casesOn (fun _=>Bool) b (fun _=>false) (fun j=>Nat.beq i j) (fun _=>false) fun _=>false) (fun i=>@GV.casesOn (fun _=>Bool) b (fun _=>false) (fun _=>false) (fun j=>i==j) fun _=>false) fun i=>@GV.casesOn (fun _=>Bool) b (fun _=>false) (fun _=>false) (fun _=>false) fun j=>i==j
theorem gvb_{a b:GV}(h:gvb a b=true):a=b:=by
 cases a with
 |int i=>
  cases b with
  |int j=>exact congrArg _ (beq_iff_eq.mp h)
  |_=>exact nomatch h
 |ref i=>
  cases b with
  |ref j=>exact congrArg _ (Qy h)
  |_=>exact nomatch h
 |bltn i=>
  cases b with
  |bltn j=>exact congrArg _ (beq_iff_eq.mp h)
  |_=>exact nomatch h
 |ty i=>
  cases b with
  |ty j=>exact congrArg _ (beq_iff_eq.mp h)
  |_=>exact nomatch h
inductive GVal:GV→Value→Prop
 |int (i t):GVal (.int i) (.int i t)
 |ref (a):GVal (.ref a) (.ref a)
 |bltn (s):GVal (.bltn s) (.builtin s)
 |ty (s):GVal (.ty s) (.type s)
structure Mt where
 K:Str→Option NameKind
 vs:List Str
 G:Str→Option GV
noncomputable def notTag(n:Nat)(x:Expr):Bool:=!(Nat.beq x.ctorIdx n)
noncomputable abbrev notSlice:=notTag 26
noncomputable abbrev notStar:=notTag 22
noncomputable abbrev notTup:=notTag 25
noncomputable def notSet(x:Expr):Bool:=notTag 24 x&&notTag 7 x
noncomputable def notComp(x:Expr):Bool:=notTag 8 x&&notTag 9 x&&notTag 10 x
theorem subscripted_of{se:Expr}(h:notSlice se=true)(o i:Value):subscripted se false o i=operate [o,i] (getItem o i):=by
 cases se<;>first|rfl|exact nomatch h
theorem starEach_cons{e:Expr}{r:List Expr}{env:Env}(h:notStar e=true):starEach (e::r) env=(false,eval e env)::starEach r env:=by
 cases e<;>first|rfl|exact nomatch h
theorem swaps_no{v:Expr}{t:Option Expr}{l:Nat}{env:Env}(h:notComp v=true):swapsWith v t l env=pure false:=by
 cases v<;>first|rfl|exact nomatch h
theorem fold_no{it:Expr}{env:Env}(h:notSet it=true)(x:Value):foldedSetIterable it env x=pure x:=by
 cases it<;>first|rfl|exact nomatch h
structure U where
 e1:Expr
 e2:Expr
 e3:Expr
 es:List Expr
 ks:List (Option Expr)
 o1:Option Expr
 o2:Option Expr
 o3:Option Expr
 s:Str
 p:Pos
 k:Nat
 cst:Const
 op:Operator
 uop:UnaryOp
 bop:BoolOp
 cops:List CmpOp
 kws:List Keyword
 gens:List Comprehension
 sc:Scope
noncomputable def d0:U:=⟨default,default,default,[],[],none,none,none,default,default,0,default,default,default,default,[],[],[],default⟩
noncomputable def un(x:Expr):U:=@Expr.casesOn (fun _=>U) x (fun o l p=>{d0 with bop:=o,es:=l,p:=p}) (fun _ _ _=>d0) (fun a o b p=>{d0 with e1:=a,op:=o,e2:=b,p:=p}) (fun o a p=>{d0 with uop:=o,e1:=a,p:=p}) (fun _ _ _ _=>d0)
 (fun a b c p=>{d0 with e1:=a,e2:=b,e3:=c,p:=p}) (fun k l p=>{d0 with ks:=k,es:=l,p:=p}) (fun _ _ _=>d0) (fun a g sc p=>{d0 with e1:=a,gens:=g,sc:=sc,p:=p}) (fun _ _ _ _=>d0) (fun _ _ _ _ _=>d0) (fun _ _ _ _=>d0) (fun _ _=>d0) (fun _ _=>d0) (fun _ _=>d0)
 (fun a o l p=>{d0 with e1:=a,cops:=o,es:=l,p:=p}) (fun a l k p=>{d0 with e1:=a,es:=l,kws:=k,p:=p}) (fun _ _ _ _=>d0) (fun _ _=>d0) (fun c k p=>{d0 with cst:=c,k:=k,p:=p}) (fun a s p=>{d0 with e1:=a,s:=s,p:=p}) (fun a b p=>{d0 with e1:=a,e2:=b,p:=p}) (fun _ _=>d0)
 (fun s p=>{d0 with s:=s,p:=p}) (fun l p=>{d0 with es:=l,p:=p}) (fun l k p=>{d0 with es:=l,k:=k,p:=p}) (fun a b c p=>{d0 with o1:=a,o2:=b,o3:=c,p:=p})
noncomputable def ifb{α:Type}(b:Bool)(x y:α):α:=@Bool.rec (fun _=>α) y x b
noncomputable def re(n:Nat)(u:U):Option Expr:=ifb (Nat.beq n 0) (some (.BoolOp u.bop u.es u.p)) (ifb (Nat.beq n 2) (some (.BinOp u.e1 u.op u.e2 u.p)) (ifb (Nat.beq n 3) (some (.UnaryOp u.uop u.e1 u.p)) (ifb (Nat.beq n 5) (some (.IfExp u.e1 u.e2 u.e3 u.p)) (ifb (Nat.beq n 6) (some (.Dict u.ks u.es u.p))
 (ifb (Nat.beq n 8) (some (.ListComp u.e1 u.gens u.sc u.p)) (ifb (Nat.beq n 15) (some (.Compare u.e1 u.cops u.es u.p)) (ifb (Nat.beq n 16) (some (.Call u.e1 u.es u.kws u.p)) (ifb (Nat.beq n 19) (some (.Constant u.cst u.k u.p)) (ifb (Nat.beq n 20) (some (.Attribute u.e1 u.s u.p)) (ifb (Nat.beq n 21) (some (.Subscript u.e1 u.e2 u.p))
 (ifb (Nat.beq n 23) (some (.Name u.s u.p)) (ifb (Nat.beq n 24) (some (.List u.es u.p)) (ifb (Nat.beq n 25) (some (.Tuple u.es u.k u.p)) (ifb (Nat.beq n 26) (some (.Slice u.o1 u.o2 u.o3 u.p)) none))))))))))))))
theorem re_un(x y:Expr)(h:re x.ctorIdx (un x)=some y):x=y:=by
 cases x<;>first|exact Ql h|exact non h
theorem inv{x:Expr}(n:Nat){y:Expr}(h:Nat.beq x.ctorIdx n=true)(k:re n (un x)=some y):x=y:=re_un x y (Qy h▸k)
structure W where
 t:List Expr
 e1:Expr
 e2:Expr
 o:Option Expr
 b1:List Stmt
 b2:List Stmt
 op:Operator
 p:Pos
noncomputable def w0:W:=⟨[],default,default,none,[],[],default,default⟩
noncomputable def wn(x:Stmt):W:=@Stmt.casesOn (fun _=>W) x (fun _ _ _ _ _ _ _ _ _ _=>w0) (fun _ _ _ _ _ _ _ _ _ _=>w0) (fun _ _ _ _ _ _ _ _ _ _ _=>w0) (fun o p=>{w0 with o:=o,p:=p}) (fun _ _=>w0) (fun t v p=>{w0 with t:=t,e1:=v,p:=p}) (fun _ _ _ _ _ _ _=>w0)
 (fun a o b p=>{w0 with e1:=a,op:=o,e2:=b,p:=p}) (fun _ _ _ _ _=>w0) (fun a b l r p=>{w0 with e1:=a,e2:=b,b1:=l,b2:=r,p:=p}) (fun _ _ _ _ _=>w0) (fun a l r p=>{w0 with e1:=a,b1:=l,b2:=r,p:=p}) (fun a l r p=>{w0 with e1:=a,b1:=l,b2:=r,p:=p})
 (fun _ _ _=>w0) (fun _ _ _=>w0) (fun _ _ _=>w0) (fun _ _ _=>w0) (fun _ _ _ _ _=>w0) (fun _ _ _ _ _=>w0) (fun _ _ _=>w0) (fun _ _=>w0) (fun _ _ _ _=>w0) (fun _ _=>w0) (fun _ _=>w0) (fun a p=>{w0 with e1:=a,p:=p}) (fun _=>w0) (fun p=>{w0 with p:=p}) (fun p=>{w0 with p:=p})
noncomputable def rw(n:Nat)(u:W):Option Stmt:=ifb (Nat.beq n 3) (some (.Return u.o u.p)) (ifb (Nat.beq n 5) (some (.Assign u.t u.e1 u.p)) (ifb (Nat.beq n 7) (some (.AugAssign u.e1 u.op u.e2 u.p)) (ifb (Nat.beq n 9) (some (.For u.e1 u.e2 u.b1 u.b2 u.p)) (ifb (Nat.beq n 11) (some (.While u.e1 u.b1 u.b2 u.p))
 (ifb (Nat.beq n 12) (some (.If u.e1 u.b1 u.b2 u.p)) (ifb (Nat.beq n 24) (some (.Expr u.e1 u.p)) (ifb (Nat.beq n 26) (some (.Break u.p)) (ifb (Nat.beq n 27) (some (.Continue u.p)) none))))))))
theorem rw_wn(x y:Stmt)(h:rw x.ctorIdx (wn x)=some y):x=y:=by
 cases x<;>first|exact Ql h|exact non h
theorem invS{x:Stmt}(n:Nat){y:Stmt}(h:Nat.beq x.ctorIdx n=true)(k:rw n (wn x)=some y):x=y:=rw_wn x y (Qy h▸k)
@[irreducible] noncomputable def isE(n:Nat)(x:Expr)(f:U→Bool):Bool:=Nat.beq x.ctorIdx n&&f (un x)
@[irreducible] noncomputable def isS(n:Nat)(x:Stmt)(f:W→Bool):Bool:=Nat.beq x.ctorIdx n&&f (wn x)
noncomputable def baseOk(x:Expr):Bool:=Nat.beq x.ctorIdx 20||Nat.beq x.ctorIdx 21||Nat.beq x.ctorIdx 23
noncomputable def isGlob(c:Mt)(n:Str)(v:GV):Bool:=decide (c.K n=some .globalImplicit)&&(c.G n).any (gvb v)&&!(n==("__debug__":Str))
noncomputable def isLoc(c:Mt)(i:Nat)(n:Str):Bool:=decide (c.vs[i]?=some n)&&decide (c.K n=some .local)
noncomputable def isVar(c:Mt)(i:Nat)(n:Str):Bool:=decide (c.vs[i]?=some n)
noncomputable def bltG:Blt→GV
 | .len=>.bltn "len" | .tuple=>.ty "tuple" | .int=>.ty "int" | .sum=>.bltn "sum"
noncomputable def bopA:Bop→Operator
 | .add=>.Add| .sub=>.Sub| .mul=>.Mult| .fdiv=>.FloorDiv| .mod=>.Mod
noncomputable def copA:Cop→CmpOp
 | .eq=>.Eq| .ne=>.NotEq| .lt=>.Lt| .gt=>.Gt| .le=>.LtE| .ge=>.GtE| .isN=>.Is| .isntN=>.IsNot| .inn=>.In| .notin=>.NotIn
noncomputable def innerMt(c:Mt)(vs:List Str)(sc:Scope):Mt:=⟨fun n=>(sc.names.map fun y=>if(y.2==.free&&c.K y.1==some .cell)then(y.1,NameKind.cell)else y).lookup n,vs,c.G⟩
noncomputable def okScope(c:Mt)(sc:Scope)(cap:List Nat)(n:Str):Bool:=
 decide (sc.kind=.function)&&sc.names.all (fun y=>!(y.2==.cell))&&sc.names.all (fun y=>!(y.2==.local)||sc.names.lookup y.1==some .local)&&decide (sc.names.lookup n=some .local)&&
 sc.names.all (fun y=>!(y.2==.free)||((c.K y.1==some .cell||c.K y.1==some .free)&&cap.any (fun i=>c.vs[i]?==some y.1)))&&
 cap.all (fun i=>(c.vs[i]?).any fun m=>sc.names.lookup m==some .free)
noncomputable def isInt(k:Int):Const→Bool
 | .int i=>i==k
 |_=>false
noncomputable def isStr(k:Str):Const→Bool
 | .str i=>i==k
 |_=>false
noncomputable def isBl(k:Bool):Const→Bool
 | .bool i=>i==k
 |_=>false
noncomputable def isNn:Const→Bool
 | .none=>true
 |_=>false
@[irreducible] noncomputable def one(l:List Expr)(f:Expr→Bool):Bool:=l.head?.any (fun x=>f x&&notStar x)&&l.tail.isEmpty
@[irreducible] noncomputable def cst(x:Expr)(f:Const→Bool):Bool:=isE 19 x fun u=>f u.cst
@[irreducible] noncomputable def nam(x:Expr)(f:Str→Bool):Bool:=isE 23 x fun u=>f u.s
noncomputable def okK:List Nat→List (Option Expr)→Bool
 |[],l=>l.isEmpty
 |n::ns,l=>l.head?.any (fun x=>x.any fun x=>cst x (isStr (kn n)))&&okK ns l.tail
@[irreducible] noncomputable def callN(x:Expr)(f:Str→List Expr→Bool):Bool:=isE 16 x fun u=>u.kws.isEmpty&&nam u.e1 fun n=>f n u.es
@[irreducible] noncomputable def methN(x:Expr)(m:Str)(f:Expr→List Expr→Bool):Bool:=isE 16 x fun u=>u.kws.isEmpty&&isE 20 u.e1 fun v=>decide (v.s=m)&&(v.p.endLine==u.p.line)&&f v.e1 u.es
@[irreducible] noncomputable def lcomp(x:Expr)(f:Expr→Str→Expr→List Expr→Scope→Pos→Bool):Bool:=isE 8 x fun u=>u.gens.tail.isEmpty&&u.gens.head?.any fun g=>decide (g.is_async=0)&&nam g.target fun n=>f u.e1 n g.iter g.ifs u.sc u.p
noncomputable def okI(c:Mt)(i:Int)(x:Expr):Bool:=cst x (isInt i)||isE 3 x (fun u=>decide (u.uop=.USub)&&cst u.e1 (isInt (-i)))||nam x fun n=>isGlob c n (.int i)
mutual
noncomputable def okE(c:Mt):E→Expr→Bool
 | .bad,_=>true
 | .none,x=>cst x isNn
 | .bool b,x=>cst x (isBl b)
 | .int i,x=>okI c i x
 | .str n,x=>decide (n < 36)&&cst x (isStr (kn n))
 | .tt,x=>nam x fun n=>isGlob c n (.ref 323)
 | .gd t,x=>nam x fun n=>isGlob c n (.ref (placeAddr t))
 | .var i,x=>nam x (isVar c i)
 | .tup es,x=>isE 25 x fun u=>okEs c es u.es&&decide (u.es.length≤1000)
 | .lst es,x=>isE 24 x fun u=>okEs c es u.es&&decide (u.es.length≤1000)
 | .newl es,x=>isE 24 x fun u=>okEs c es u.es&&decide (u.es.length≤1000)
 | .newi,x=>isE 6 x fun u=>u.ks.isEmpty&&u.es.isEmpty
 | .newt,x=>isE 6 x fun u=>u.ks.isEmpty&&u.es.isEmpty
 | .newd ks es,x=>isE 6 x fun u=>okK ks u.ks&&okEs c es u.es&&decide (ks.length=u.ks.length∧u.ks.length=u.es.length∧ks.Nodup∧ks≠[]∧ks.length≤15∧∀k∈ks,k < 36)
 | .sub a b,x=>isE 21 x fun u=>okE c a u.e1&&okE c b u.e2&&notSlice u.e2
 | .upto a b,x=>isE 21 x fun u=>okE c a u.e1&&isE 26 u.e2 fun v=>v.o1.isNone&&v.o2.any (okE c b)&&v.o3.isNone
 | .frm a b,x=>isE 21 x fun u=>okE c a u.e1&&isE 26 u.e2 fun v=>v.o1.any (okE c b)&&v.o2.isNone&&v.o3.isNone
 | .mid a b d,x=>isE 21 x fun u=>okE c a u.e1&&isE 26 u.e2 fun v=>v.o1.any (okE c b)&&v.o2.any (okE c d)&&v.o3.isNone
 | .attr a n,x=>isE 20 x fun u=>okE c a u.e1&&baseOk u.e1&&decide (n < 36∧n≠34∧n≠35∧u.s=kn n)
 | .bin o a b,x=>isE 2 x fun u=>okE c a u.e1&&decide (u.op=bopA o)&&okE c b u.e2
 | .cmp o a b,x=>isE 15 x fun u=>okE c a u.e1&&decide (u.cops=[copA o])&&u.es.tail.isEmpty&&u.es.head?.any fun y=>okE c b y&&!(behindInMarks (copA o) y)
 | .bop t es,x=>isE 0 x fun u=>decide (u.bop=if t then .And else .Or)&&okEs c es u.es
 | .not a,x=>isE 3 x fun u=>decide (u.uop=.Not)&&okE c a u.e1
 | .ite a b d,x=>isE 5 x fun u=>okE c a u.e1&&okE c b u.e2&&okE c d u.e3
 | .call f es,x=>callN x fun n l=>isGlob c n (.ref f)&&okEs c es l
 | .callL f es i,x=>callN x fun n l=>isGlob c n (.ref f)&&okEsL c es i l
 | .callF f i es,x=>callN x fun n l=>isGlob c n (.ref f)&&l.head?.any (fun y=>nam y (isLoc c i))&&okEs c es l.tail
 | .blt f a,x=>callN x fun n l=>isGlob c n (bltG f)&&one l (okE c a)
 | .get a k d,x=>methN x "get" fun y l=>okE c a y&&baseOk y&&l.head?.any (fun x=>okE c k x&&notStar x)&&one l.tail (okE c d)
 | .new k f es,x=>callN x fun n l=>isGlob c n (.ref k)&&okEs c es l&&decide ((k=91∧f=74)∨(k=347∧f=337))
 | .meth _ a n es,x=>methN x (kn n) fun y l=>okE c a y&&baseOk y&&decide (n < 36∧l.length < 20)&&okEs c es l
 | .compF _ it,x=>lcomp x fun b n y l sc _=>okE c it y&&notSet y&&nam b (isVar (innerMt c [n] sc) 0)&&one l (fun z=>nam z (isVar (innerMt c [n] sc) 0))&&!(n==("__debug__":Str))&&!(n==("__classdict__":Str))&&okScope c sc [] n
 | .compS _ it,x=>lcomp x fun b n y l sc _=>okE c it y&&notSet y&&isE 21 b (fun u=>nam u.e1 (isVar (innerMt c [n] sc) 0)&&okI (innerMt c [n] sc) 0 u.e2&&notSlice u.e2)&&l.isEmpty&&!(n==("__debug__":Str))&&!(n==("__classdict__":Str))&&okScope c sc [] n
noncomputable def okEs(c:Mt):Es→List Expr→Bool
 | .nil,l=>l.isEmpty
 | .cons e es,l=>l.head?.any (fun x=>okE c e x&&notStar x)&&okEs c es l.tail
noncomputable def okEsL(c:Mt):Es→Nat→List Expr→Bool
 | .nil,i,l=>l.head?.any (fun x=>nam x (isVar c i))&&l.tail.isEmpty
 | .cons e es,i,l=>l.head?.any (fun x=>okE c e x&&notStar x)&&okEsL c es i l.tail
end
noncomputable def okNs(c:Mt):List Nat→List Expr→Bool
 |[],l=>l.isEmpty
 |i::is,l=>l.head?.any (fun x=>nam x (isLoc c i))&&okNs c is l.tail
@[irreducible] noncomputable def asg(x:Stmt)(f:Expr→Expr→Bool):Bool:=isS 5 x fun u=>u.t.tail.isEmpty&&u.t.head?.any fun t=>f t u.e1
@[irreducible] noncomputable def sMeth(x:Stmt)(m:Str)(f:Expr→List Expr→Bool):Bool:=isS 24 x fun u=>methN u.e1 m f
mutual
noncomputable def okS(c:Mt):S→Stmt→Bool
 | .asg i e,x=>asg x fun t v=>nam t (isLoc c i)&&okE c e v&&notComp v
 | .asgl i es,x=>asg x fun t v=>nam t (isLoc c i)&&decide (i≠0)&&isE 24 v fun u=>okEs c es u.es&&decide (u.es.length≤1000)
 | .asgt i e,x=>asg x fun t v=>nam t (isLoc c i)&&decide (i≠0)&&callN v fun n l=>isGlob c n (.ty "list")&&one l (okE c e)
 | .unp is e,x=>asg x fun t v=>isE 25 t (fun u=>okNs c is u.es)&&okE c e v&&notComp v&&notTup v
 | .seti a k v,x=>asg x fun t w=>okE c v w&&isE 21 t (fun u=>okE c a u.e1&&okE c k u.e2&&notSlice u.e2)&&notComp w
 | .setl i k v,x=>asg x fun t w=>okE c v w&&isE 21 t (fun u=>nam u.e1 (isLoc c i)&&okE c k u.e2&&notSlice u.e2)&&notComp w
 | .seta a n v,x=>asg x fun t w=>okE c v w&&isE 20 t (fun u=>okE c a u.e1&&decide (n < 36∧n≠34∧n≠35∧u.s=kn n))&&notComp w
 | .aug i e,x=>isS 7 x fun u=>nam u.e1 (isLoc c i)&&decide (u.op=.Add)&&okE c e u.e2
 | .asgC g j cap elt i it,x=>asg x fun t v=>isE 23 t fun w=>lcomp v fun b n y l sc p=>(@Bool.rec (fun _=>Bool) (callN y fun m q=>isGlob c m (.ty "range")&&one q (okE c it)) (okE c it y&&notSet y) g)&&
   isVar c i n&&okScope c sc cap n&&okE (innerMt c c.vs sc) elt b&&isLoc c j w.s&&(w.p.line==p.line)&&!(sc.names.any fun z=>z.1==w.s&&(z.2==.local||z.2==.cell))&&l.isEmpty
 | .app i e,x=>sMeth x "append" fun y l=>nam y (isLoc c i)&&one l (okE c e)
 | .ext i e,x=>sMeth x "extend" fun y l=>nam y (isLoc c i)&&one l (okE c e)
 | .appr a e,x=>sMeth x "append" fun y l=>okE c a y&&baseOk y&&one l (okE c e)
 | .popr a,x=>sMeth x "pop" fun y l=>okE c a y&&baseOk y&&l.isEmpty
 | .ex e,x=>isS 24 x fun u=>okE c e u.e1&&notComp u.e1
 | .iff e a b,x=>isS 12 x fun u=>okE c e u.e1&&okSs c a u.b1&&okSs c b u.b2
 | .whl e a,x=>isS 11 x fun u=>okE c e u.e1&&okSs c a u.b1&&u.b2.isEmpty
 | .for1 i it a,x=>isS 9 x fun u=>nam u.e1 (isLoc c i)&&notSet u.e2&&okE c it u.e2&&okSs c a u.b1&&u.b2.isEmpty
 | .for2 i j it a,x=>isS 9 x fun u=>isE 25 u.e1 (fun v=>okNs c [i,j] v.es)&&notSet u.e2&&okE c it u.e2&&okSs c a u.b1&&u.b2.isEmpty
 | .forR i it a,x=>isS 9 x fun u=>nam u.e1 (isLoc c i)&&callN u.e2 (fun n l=>isGlob c n (.ty "range")&&one l (okE c it))&&okSs c a u.b1&&u.b2.isEmpty
 | .ret e,x=>isS 3 x fun u=>u.o.any (okE c e)
 | .ret0,x=>isS 3 x fun u=>u.o.isNone
 | .brk,x=>isS 26 x fun _=>true
 | .cont,x=>isS 27 x fun _=>true
noncomputable def okSs(c:Mt):Ss→List Stmt→Bool
 | .nil,l=>l.isEmpty
 | .cons s ss,l=>l.head?.any (fun x=>okS c s x)&&okSs c ss l.tail
 | .dead,_=>true
end
end
noncomputable abbrev Es.l1(a0:E):Es:=.cons a0 .nil
noncomputable abbrev Es.l2(a0 a1:E):Es:=.cons a0 (.cons a1 .nil)
noncomputable abbrev Es.l3(a0 a1 a2:E):Es:=.cons a0 (.cons a1 (.cons a2 .nil))
noncomputable abbrev Es.l4(a0 a1 a2 a3:E):Es:=.cons a0 (.cons a1 (.cons a2 (.cons a3 .nil)))
noncomputable abbrev Es.l5(a0 a1 a2 a3 a4:E):Es:=.cons a0 (.cons a1 (.cons a2 (.cons a3 (.cons a4 .nil))))
noncomputable abbrev Es.l6(a0 a1 a2 a3 a4 a5:E):Es:=.cons a0 (.cons a1 (.cons a2 (.cons a3 (.cons a4 (.cons a5 .nil)))))
noncomputable abbrev Es.l7(a0 a1 a2 a3 a4 a5 a6:E):Es:=.cons a0 (.cons a1 (.cons a2 (.cons a3 (.cons a4 (.cons a5 (.cons a6 .nil))))))
noncomputable abbrev Es.l8(a0 a1 a2 a3 a4 a5 a6 a7:E):Es:=.cons a0 (.cons a1 (.cons a2 (.cons a3 (.cons a4 (.cons a5 (.cons a6 (.cons a7 .nil)))))))
noncomputable abbrev Es.l9(a0 a1 a2 a3 a4 a5 a6 a7 a8:E):Es:=.cons a0 (.cons a1 (.cons a2 (.cons a3 (.cons a4 (.cons a5 (.cons a6 (.cons a7 (.cons a8 .nil))))))))
noncomputable abbrev Es.l10(a0 a1 a2 a3 a4 a5 a6 a7 a8 a9:E):Es:=.cons a0 (.cons a1 (.cons a2 (.cons a3 (.cons a4 (.cons a5 (.cons a6 (.cons a7 (.cons a8 (.cons a9 .nil)))))))))
noncomputable abbrev Es.l11(a0 a1 a2 a3 a4 a5 a6 a7 a8 a9 a10:E):Es:=.cons a0 (.cons a1 (.cons a2 (.cons a3 (.cons a4 (.cons a5 (.cons a6 (.cons a7 (.cons a8 (.cons a9 (.cons a10 .nil))))))))))
noncomputable abbrev Es.l12(a0 a1 a2 a3 a4 a5 a6 a7 a8 a9 a10 a11:E):Es:=.cons a0 (.cons a1 (.cons a2 (.cons a3 (.cons a4 (.cons a5 (.cons a6 (.cons a7 (.cons a8 (.cons a9 (.cons a10 (.cons a11 .nil)))))))))))
noncomputable abbrev Ss.l1(a0:S):Ss:=.cons a0 .nil
noncomputable abbrev Ss.l2(a0 a1:S):Ss:=.cons a0 (.cons a1 .nil)
noncomputable abbrev Ss.l3(a0 a1 a2:S):Ss:=.cons a0 (.cons a1 (.cons a2 .nil))
noncomputable abbrev Ss.l4(a0 a1 a2 a3:S):Ss:=.cons a0 (.cons a1 (.cons a2 (.cons a3 .nil)))
noncomputable abbrev Ss.l5(a0 a1 a2 a3 a4:S):Ss:=.cons a0 (.cons a1 (.cons a2 (.cons a3 (.cons a4 .nil))))
noncomputable abbrev Ss.l6(a0 a1 a2 a3 a4 a5:S):Ss:=.cons a0 (.cons a1 (.cons a2 (.cons a3 (.cons a4 (.cons a5 .nil)))))
noncomputable abbrev Ss.l7(a0 a1 a2 a3 a4 a5 a6:S):Ss:=.cons a0 (.cons a1 (.cons a2 (.cons a3 (.cons a4 (.cons a5 (.cons a6 .nil))))))
noncomputable abbrev Ss.l8(a0 a1 a2 a3 a4 a5 a6 a7:S):Ss:=.cons a0 (.cons a1 (.cons a2 (.cons a3 (.cons a4 (.cons a5 (.cons a6 (.cons a7 .nil)))))))
noncomputable abbrev Ss.l9(a0 a1 a2 a3 a4 a5 a6 a7 a8:S):Ss:=.cons a0 (.cons a1 (.cons a2 (.cons a3 (.cons a4 (.cons a5 (.cons a6 (.cons a7 (.cons a8 .nil))))))))
noncomputable abbrev Ss.l10(a0 a1 a2 a3 a4 a5 a6 a7 a8 a9:S):Ss:=.cons a0 (.cons a1 (.cons a2 (.cons a3 (.cons a4 (.cons a5 (.cons a6 (.cons a7 (.cons a8 (.cons a9 .nil)))))))))
noncomputable abbrev Ss.l11(a0 a1 a2 a3 a4 a5 a6 a7 a8 a9 a10:S):Ss:=.cons a0 (.cons a1 (.cons a2 (.cons a3 (.cons a4 (.cons a5 (.cons a6 (.cons a7 (.cons a8 (.cons a9 (.cons a10 .nil))))))))))
noncomputable abbrev Ss.l12(a0 a1 a2 a3 a4 a5 a6 a7 a8 a9 a10 a11:S):Ss:=.cons a0 (.cons a1 (.cons a2 (.cons a3 (.cons a4 (.cons a5 (.cons a6 (.cons a7 (.cons a8 (.cons a9 (.cons a10 (.cons a11 .nil)))))))))))
noncomputable abbrev I0:E:=.int 0
noncomputable abbrev I1:E:=.int 1
noncomputable abbrev I2:E:=.int 2
noncomputable abbrev I3:E:=.int 3
noncomputable abbrev I4:E:=.int 4
noncomputable abbrev I5:E:=.int 5
noncomputable abbrev I6:E:=.int 6
noncomputable abbrev I7:E:=.int 7
noncomputable abbrev I8:E:=.int 8
noncomputable abbrev I9:E:=.int 9
noncomputable abbrev I10:E:=.int 10
noncomputable abbrev I11:E:=.int 11
noncomputable abbrev I12:E:=.int 12
noncomputable abbrev I13:E:=.int 13
noncomputable abbrev I14:E:=.int 14
noncomputable abbrev I15:E:=.int 15
noncomputable abbrev I16:E:=.int 16
noncomputable abbrev I17:E:=.int 17
noncomputable abbrev I18:E:=.int 18
noncomputable abbrev I20:E:=.int 20
noncomputable abbrev I22:E:=.int 22
noncomputable abbrev I23:E:=.int 23
noncomputable abbrev I24:E:=.int 24
noncomputable abbrev I26:E:=.int 26
noncomputable abbrev I30:E:=.int 30
noncomputable abbrev I31:E:=.int 31
noncomputable abbrev I32:E:=.int 32
noncomputable abbrev I33:E:=.int 33
noncomputable abbrev I34:E:=.int 34
noncomputable abbrev I40:E:=.int 40
noncomputable abbrev I72:E:=.int 72
noncomputable abbrev I73:E:=.int 73
noncomputable abbrev I91:E:=.int 91
noncomputable abbrev I93:E:=.int 93
noncomputable abbrev I94:E:=.int 94
noncomputable abbrev I95:E:=.int 95
noncomputable abbrev I96:E:=.int 96
noncomputable abbrev V0:E:=.var 0
noncomputable abbrev V1:E:=.var 1
noncomputable abbrev V2:E:=.var 2
noncomputable abbrev V3:E:=.var 3
noncomputable abbrev V4:E:=.var 4
noncomputable abbrev V5:E:=.var 5
noncomputable abbrev V6:E:=.var 6
noncomputable abbrev V7:E:=.var 7
noncomputable abbrev V8:E:=.var 8
noncomputable abbrev V9:E:=.var 9
noncomputable abbrev V10:E:=.var 10
noncomputable abbrev V11:E:=.var 11
noncomputable abbrev V12:E:=.var 12
noncomputable abbrev V13:E:=.var 13
noncomputable abbrev V14:E:=.var 14
noncomputable abbrev V15:E:=.var 15
noncomputable abbrev V16:E:=.var 16
noncomputable def bQ0:Fn:=⟨1,false,["self","number","row"],[8,12,129],(.l6 (.seta V0 29 (.newl .nil)) (.seta V0 30 .newt) (.seta V0 31 (.newl .nil)) (.seta V0 32 (.newl .nil)) (.seta V0 33 (.newl .nil)) (.forR 1 I16 (.l6 (.asg 2 (.tup (.l2 I1 V1))) (.appr (.attr V0 29) V2) (.seti (.attr V0 30) V2 V1) (.appr (.attr V0 31) I1) (.appr (.attr V0 32) I1) (.appr (.attr V0 33) I0))))⟩
noncomputable def bQ1:Fn:=⟨2,false,["self","row","found","depth","weight","opened","level","inner","k"],[1,3,11,15,113,119,123,131],(.cons (.asg 2 (.get (.attr V0 30) V1 (.int (-1)))) (.cons (.iff (.cmp .ge V2 I0) .dead .nil) (.cons (.ex (.call 123 (.l2 V0 V1))) (.cons (.asg 3 I1) (.cons (.asg 4 I1) (.cons (.asg 5 I0) (.l12 (.iff (.bop false (.l2 (.cmp .eq (.sub V1 I0) I6) (.cmp .eq (.sub V1 I0) I7))) .dead .nil) (.asg 6 (.call 109 (.l1 (.sub V1 I0)))) (.for1 7 (.call 102 (.l1 V1)) .dead) (.iff (.cmp .gt V3 I24) .dead .nil) (.iff (.cmp .gt V4 (.int 4096)) .dead .nil) (.asg 8 (.blt .len (.attr V0 29))) (.appr (.attr V0 29) V1) (.seti (.attr V0 30) V1 V8) (.appr (.attr V0 31) V3) (.appr (.attr V0 32) V4) (.appr (.attr V0 33) V5) (.ret V8))))))))⟩
noncomputable def bQ2:Fn:=⟨1,false,["row","sort"],[10,14],(.cons (.asg 1 (.sub V0 I0)) (.cons (.iff (.bop false (.l2 (.cmp .eq V1 I2) (.cmp .eq V1 I3))) (.l1 (.ret (.sub V0 I2))) .nil) .dead))⟩
noncomputable def bQ3:Fn:=⟨1,false,["sort"],[9,10,14],(.cons (.iff (.bop false (.l3 (.cmp .eq V0 I2) (.cmp .eq V0 I3) (.cmp .eq V0 I4))) (.l1 (.ret I1)) .nil) .dead)⟩
noncomputable def bQ4:Fn:=⟨1,false,["sort"],[10,14],(.cons (.iff (.bop false (.l2 (.cmp .eq V0 I2) (.cmp .eq V0 I3))) (.l1 (.ret I3)) .nil) .dead)⟩
noncomputable def bQ5:Fn:=⟨2,false,["kt","row","sort","inner"],[10,12,13,14,114,119,123,130],(.l5 (.iff (.bop false (.l3 (.cmp .eq (.blt .len V1) I0) (.cmp .le (.sub V1 I0) I1) (.cmp .gt (.sub V1 I0) I11))) .dead .nil) (.asg 2 (.sub V1 I0)) (.iff (.cmp .ne (.blt .len V1) (.call 116 (.l1 V2))) .dead .nil) (.for1 3 (.call 102 (.l1 V1)) .dead) (.iff (.bop false (.l2 (.cmp .eq V2 I2) (.cmp .eq V2 I3))) (.l1 (.ex (.call 130 (.l2 V0 V1)))) .dead))⟩
noncomputable def bQ6:Fn:=⟨2,false,["kt","row"],[42,112],(.l2 (.iff (.bop false (.l2 (.cmp .le (.sub V1 I1) I0) (.cmp .inn (.sub V1 I1) (.gd 2)))) .dead .nil) (.ex (.call 137 (.l2 V0 (.sub V1 I2)))))⟩
noncomputable def bQ7:Fn:=⟨2,false,["kt","args","arg"],[],(.l1 (.for1 2 V1 .dead))⟩
noncomputable def bQ8:Fn:=⟨2,false,["row","places","out","place","sort","part"],[6,150],(.l3 (.asgl 2 .nil) (.for2 3 4 V1 (.l2 (.asg 5 (.sub V0 V3)) (.iff (.cmp .eq V4 I3) (.l1 (.ext 2 V5)) (.l1 (.iff (.cmp .isntN V5 .none) (.l1 (.app 2 V5)) .nil))))) (.ret (.blt .tuple V2)))⟩
noncomputable def bQ9:Fn:=⟨1,false,["e"],[5,126],(.l1 (.ret (.call 275 (.l2 V0 (.get (.gd 0) (.sub V0 I0) (.tup .nil))))))⟩
noncomputable def bQ10:Fn:=⟨2,false,["e","kids","row","at","place","sort","part"],[5,6,123,124,150],(.l4 (.asgt 2 V0) (.asg 3 I0) (.for2 4 5 (.get (.gd 0) (.sub V0 I0) (.tup .nil)) (.l2 (.asg 6 (.sub V0 V4)) (.iff (.cmp .eq V5 I3) (.l2 (.setl 2 V4 (.blt .tuple (.mid V1 V3 (.bin .add V3 (.blt .len V6))))) (.aug 3 (.blt .len V6))) (.l1 (.iff (.cmp .isntN V6 .none) .dead .nil))))) (.ret (.blt .tuple V2)))⟩
noncomputable def bQ11:Fn:=⟨1,false,["s","out","labels","stmts"],[150],(.l3 (.asgl 1 .nil) (.for2 2 3 (.sub V0 I2) (.l1 (.ext 1 V3))) (.ret (.blt .tuple V1)))⟩
noncomputable def bQ12:Fn:=⟨1,false,["s","out","row"],[150],(.l4 (.asgl 1 (.l1 (.sub V0 I1))) (.for1 2 (.sub V0 I2) (.l1 (.app 1 (.sub V2 I3)))) (.iff (.cmp .isntN (.sub V0 I3) .none) (.l1 (.app 1 (.sub V0 I3))) .nil) (.ret (.blt .tuple V1)))⟩
noncomputable def bQ13:Fn:=⟨1,false,["s"],[20,35,37,126,148,149],(.l3 (.iff (.cmp .eq (.sub V0 I0) I9) (.l1 (.ret (.call 301 (.l1 V0)))) .nil) (.iff (.cmp .eq (.sub V0 I0) I14) (.l1 (.ret (.call 308 (.l1 V0)))) .nil) (.ret (.call 275 (.l2 V0 (.get (.gd 1) (.sub V0 I0) (.tup .nil))))))⟩
noncomputable def bQ14:Fn:=⟨2,false,["self","kt"],[],(.l2 (.seta V0 27 V1) (.seta V0 28 I0))⟩
noncomputable def bQ15:Fn:=⟨1,false,["self"],[],(.l2 (.seta V0 28 (.bin .add (.attr V0 28) I1)) (.ret (.attr V0 28)))⟩
noncomputable def bQ16:Fn:=⟨1,false,["e","kid"],[46,116,122],(.l3 (.iff (.cmp .eq (.sub V0 I0) I30) (.l1 (.ret (.bool true))) .nil) (.for1 1 (.call 282 (.l1 V0)) (.l1 (.iff (.call 358 (.l1 V1)) (.l1 (.ret (.bool true))) .nil))) (.ret (.bool false)))⟩
noncomputable def bQ17:Fn:=⟨1,false,["e"],[116],(.l1 (.ret (.bop true (.l2 (.cmp .isntN V0 .none) (.call 358 (.l1 V0))))))⟩
noncomputable def bQ18:Fn:=⟨1,false,["s","kid"],[25,145],(.l2 (.for1 1 (.call 315 (.l1 V0)) (.l1 (.iff (.cmp .eq (.sub V1 I0) I93) (.l1 (.ret (.tup (.l2 I93 V0)))) .nil))) (.ret V0))⟩
noncomputable def bQ19:Fn:=⟨1,false,["stmts"],[22,125,150],(.l1 (.ret (.call 372 (.l1 (.tup (.l3 I3 (.blt .tuple V0) I0))))))⟩
noncomputable def bQ20:Fn:=⟨3,true,["pre","sp","e","n"],[31,53,62,64,121,133],(.l4 (.iff (.bop false (.l2 (.cmp .eq (.sub V2 I0) I1) (.bop true (.l2 (.cmp .eq (.sub V2 I0) I3) (.not (.call 172 (.l2 (.attr V1 27) (.sub V2 I1)))))))) (.l1 (.ret V2)) .nil) (.asg 3 (.meth 344 V1 34 .nil)) (.app 0 (.tup (.l3 I94 V3 (.callL 421 (.l2 V1 V2) 0)))) (.ret (.tup (.l3 I91 (.sub V2 I1) V3))))⟩
noncomputable def bQ21:Fn:=⟨3,true,["pre","sp","e","code","arr","obj","args","arg"],[56,61,64],(.cons (.asg 3 (.sub V2 I0)) (.cons (.iff (.bop false (.l3 (.cmp .eq V3 I2) (.cmp .eq V3 I5) (.cmp .eq V3 I3))) (.l1 (.ret V2)) .nil) .dead))⟩
noncomputable def bQ22:Fn:=⟨3,true,["pre","sp","e","code","effect","aim"],[44,45,46,49,50,51,52,57,60,115,116,123,133,134,139],(.l11 (.iff (.not (.call 358 (.l1 V2))) (.l1 (.ret V2)) .nil) (.asg 3 (.sub V2 I0)) (.iff (.cmp .eq V3 I30) (.l1 (.ret (.callL 428 (.l2 V1 V2) 0))) .nil) (.iff (.cmp .eq V3 I31) .dead .nil) (.iff (.bop false (.l2 (.cmp .eq V3 I15) (.cmp .eq V3 I16))) .dead .nil) (.iff (.cmp .eq V3 I17) .dead .nil) (.iff (.cmp .eq V3 I18) .dead .nil) (.iff (.cmp .eq V3 I22) (.l2 (.asg 5 (.callL 400 (.l2 V1 (.sub V2 I2)) 0)) (.ret (.tup (.l4 I22 (.sub V2 I1) V5 (.callL 421 (.l2 V1 (.sub V2 I3)) 0))))) .nil) (.iff (.cmp .eq V3 I23) .dead .nil) (.iff (.bop true (.l2 (.cmp .eq V3 I26) (.cmp .gt (.blt .len (.sub V2 I2)) I2))) .dead .nil) (.ret (.callL 477 (.l2 V1 V2) 0)))⟩
noncomputable def bQ23:Fn:=⟨3,true,["pre","sp","e","task","n"],[21,25,62,133],(.l4 (.asg 3 (.callL 421 (.l2 V1 (.sub V2 I2)) 0)) (.asg 4 (.meth 344 V1 34 .nil)) (.app 0 (.tup (.l2 I93 (.tup (.l3 I95 V4 V3))))) (.ret (.tup (.l3 I91 (.sub V2 I1) V4))))⟩
noncomputable def bQ24:Fn:=⟨5,true,["pre","sp","e","part","place"],[48,58,59,118],(.l3 (.iff (.cmp .eq (.sub V3 I0) I33) .dead .nil) (.iff (.bop true (.l3 (.cmp .eq V4 I0) (.bop false (.l2 (.cmp .eq (.sub V2 I0) I8) (.cmp .eq (.sub V2 I0) I34))) (.cmp .isntN (.sub V2 I2) .none))) .dead .nil) (.ret (.callL 393 (.l2 V1 V3) 0)))⟩
noncomputable def bQ25:Fn:=⟨3,true,["pre","sp","e","kids","last","place","out"],[116,117,122,123,129,133,151],(.l6 (.asg 3 (.call 282 (.l1 V2))) (.asg 4 I0) (.forR 5 (.blt .len V3) (.l1 (.iff (.call 358 (.l1 (.sub V3 V5))) (.l1 (.asg 4 V5)) .nil))) (.asgl 6 .nil) (.forR 5 (.blt .len V3) (.l1 (.iff (.cmp .lt V5 V4) (.l1 (.app 6 (.callL 470 (.l4 V1 V2 (.sub V3 V5) V5) 0))) (.l1 (.iff (.cmp .eq V5 V4) (.l1 (.app 6 (.callL 421 (.l2 V1 (.sub V3 V5)) 0))) (.l1 (.app 6 (.sub V3 V5)))))))) (.ret (.call 289 (.l2 V2 V6))))⟩
noncomputable def bQ26:Fn:=⟨2,false,["pre","s"],[123,125,132],(.l3 (.asg 1 (.call 372 (.l1 V1))) (.iff (.cmp .eq (.blt .len V0) I0) (.l1 (.ret V1)) .nil) (.ret (.call 379 (.l1 (.bin .add V0 (.lst (.l1 V1)))))))⟩
noncomputable def bQ27:Fn:=⟨2,false,["sp","stmts","out","s"],[142,150],(.l3 (.asgl 2 .nil) (.for1 3 V1 (.l1 (.app 2 (.call 505 (.l2 V0 V3))))) (.ret (.blt .tuple V2)))⟩
noncomputable def bQ28:Fn:=⟨2,false,["sp","s"],[142],(.l2 (.iff (.cmp .isN V1 .none) (.l1 (.ret .none)) .nil) (.ret (.call 505 (.l2 V0 V1))))⟩
noncomputable def bQ29:Fn:=⟨2,false,["sp","s","code","pre","test","e"],[22,26,29,30,32,35,37,38,39,116,123,125,133,135,137,138,140,141,142,143,144,152],(.l9 (.asg 2 (.sub V1 I0)) (.iff (.cmp .eq V2 I3) (.l2 (.iff (.bop true (.l3 (.cmp .eq (.blt .len (.sub V1 I1)) I1) (.cmp .eq (.sub (.sub (.sub V1 I1) I0) I0) I6) (.call 358 (.l1 (.sub (.sub (.sub V1 I1) I0) I2))))) (.l1 (.ret (.call 540 (.l3 V0 (.sub (.sub V1 I1) I0) (.sub V1 I2))))) .nil) (.ret (.call 372 (.l1 (.tup (.l3 I3 (.call 491 (.l2 V0 (.sub V1 I1))) (.sub V1 I2))))))) .nil) (.iff (.cmp .eq V2 I4) (.l3 (.asgl 3 .nil) (.asg 4 (.callL 421 (.l2 V0 (.sub V1 I1)) 3)) (.ret (.call 484 (.l2 V3 (.tup (.l4 I4 V4 (.call 505 (.l2 V0 (.sub V1 I2))) (.call 498 (.l2 V0 (.sub V1 I3))))))))) .nil) (.iff (.cmp .eq V2 I14) (.l1 (.ret (.call 582 (.l2 V0 V1)))) .nil) (.iff (.bop false (.l3 (.cmp .eq V2 I5) (.cmp .eq V2 I6) (.cmp .eq V2 I7))) (.l1 (.ret (.call 533 (.l2 V0 V1)))) .nil) (.iff (.cmp .eq V2 I8) (.l3 (.asgl 3 .nil) (.asg 5 (.callL 421 (.l2 V0 (.sub V1 I2)) 3)) (.ret (.call 484 (.l2 V3 (.bin .add (.bin .add (.upto V1 I2) (.tup (.l2 V5 (.call 505 (.l2 V0 (.sub V1 I3)))))) (.frm V1 I4)))))) .nil) (.iff (.cmp .eq V2 I9) (.l1 (.ret (.call 554 (.l2 V0 V1)))) .nil) (.iff (.cmp .eq V2 I15) (.l3 (.asgl 3 .nil) (.asg 5 (.callL 421 (.l2 V0 (.sub V1 I2)) 3)) (.ret (.call 484 (.l2 V3 (.tup (.l5 I15 (.sub V1 I1) V5 (.sub V1 I3) (.call 505 (.l2 V0 (.sub V1 I4))))))))) .nil) (.ret (.call 512 (.l2 V0 V1))))⟩
noncomputable def bQ30:Fn:=⟨2,false,["sp","s","code","pre","e"],[28,33,34,36,40,62,128,132,133,152],(.l6 (.asg 2 (.sub V1 I0)) (.asgl 3 .nil) (.iff (.cmp .eq V2 I16) (.l1 (.ret (.call 379 (.l1 (.callL 519 (.l2 V0 V1) 3))))) .nil) (.iff (.bop true (.l2 (.cmp .eq V2 I2) (.cmp .isntN (.sub V1 I2) .none))) (.l1 (.ret (.callF 484 3 (.l1 (.tup (.l3 I2 (.sub V1 I1) (.callL 421 (.l2 V0 (.sub V1 I2)) 3))))))) .nil) (.iff (.bop true (.l2 (.bop false (.l3 (.cmp .eq V2 I1) (.cmp .eq V2 I12) (.cmp .eq V2 I13))) (.cmp .isntN (.sub V1 I1) .none))) (.l3 (.asg 4 (.callL 421 (.l2 V0 (.sub V1 I1)) 3)) (.iff (.bop true (.l2 (.cmp .eq V2 I1) (.cmp .eq (.sub V4 I0) I91))) (.l1 (.ret (.call 379 (.l1 V3)))) .nil) (.ret (.call 484 (.l2 V3 (.tup (.l2 V2 V4)))))) .nil) (.ret V1))⟩
noncomputable def bQ31:Fn:=⟨3,true,["pre","sp","s","e"],[25,40,133],(.l3 (.asg 3 (.callL 421 (.l2 V1 (.sub V2 I1)) 0)) (.app 0 (.tup (.l2 I93 (.tup (.l2 I16 V3))))) (.ret V0))⟩
noncomputable def bQ32:Fn:=⟨2,false,["test","pre"],[23,27,32],(.l1 (.ret (.bin .add V1 (.lst (.l1 (.tup (.l4 I4 V0 (.tup (.l1 I18)) (.tup (.l1 I10)))))))))⟩
noncomputable def bQ33:Fn:=⟨2,false,["sp","s","code","body","pre","test"],[26,29,39,43,116,125,132,133,135,136,142,146],(.l5 (.asg 2 (.sub V1 I0)) (.iff (.cmp .eq V2 I7) (.l1 (.ret (.call 547 (.l2 V0 V1)))) .nil) (.iff (.cmp .eq V2 I5) (.l5 (.asg 3 (.call 505 (.l2 V0 (.sub V1 I2)))) (.iff (.not (.call 358 (.l1 (.sub V1 I1)))) (.l1 (.ret (.call 372 (.l1 (.tup (.l3 I5 (.sub V1 I1) V3)))))) .nil) (.asgl 4 .nil) (.asg 5 (.callL 421 (.l2 V0 (.sub V1 I1)) 4)) (.ret (.call 372 (.l1 (.tup (.l3 I5 .tt (.call 379 (.l1 (.bin .add (.call 526 (.l2 V5 V4)) (.lst (.l1 V3))))))))))) .nil) (.iff (.not (.call 358 (.l1 (.sub V1 I2)))) (.l1 (.ret (.call 372 (.l1 (.tup (.l3 I6 (.call 505 (.l2 V0 (.sub V1 I1))) (.sub V1 I2))))))) .nil) (.ret (.call 540 (.l3 V0 V1 I0))))⟩
noncomputable def bQ34:Fn:=⟨3,false,["sp","s","number","body","n","first","pre","test","asked","turn","loop"],[0,4,22,31,32,39,43,47,53,62,125,132,133,142,146,150],(.l9 (.asg 3 (.call 505 (.l2 V0 (.sub V1 I1)))) (.asg 4 (.meth 344 V0 34 .nil)) (.asg 5 (.tup (.l6 I14 I1 (.str 25) (.tup (.l3 I91 I7 V4)) (.tup (.l3 I1 I7 I1)) I0))) (.asgl 6 .nil) (.asg 7 (.callL 421 (.l2 V0 (.sub V1 I2)) 6)) (.asg 8 (.call 372 (.l1 (.tup (.l3 I3 (.blt .tuple (.call 526 (.l2 V7 V6))) V2))))) (.asg 9 (.call 372 (.l1 (.tup (.l4 I4 V5 (.tup (.l3 I94 V4 (.tup (.l3 I1 I7 I0)))) V8))))) (.asg 10 (.call 372 (.l1 (.tup (.l3 I5 .tt (.call 379 (.l1 (.lst (.l2 V9 V3))))))))) (.ret (.call 379 (.l1 (.lst (.l2 (.tup (.l3 I94 V4 (.tup (.l3 I1 I7 I1)))) V10))))))⟩
noncomputable def bQ35:Fn:=⟨2,false,["sp","s","inits","steps","body","test","pre"],[29,109,125,132,133,141,142,146],(.l6 (.asg 2 (.call 491 (.l2 V0 (.sub V1 I1)))) (.asg 3 (.call 491 (.l2 V0 (.sub V1 I3)))) (.asg 4 (.call 505 (.l2 V0 (.sub V1 I4)))) (.asg 5 (.sub V1 I2)) (.iff (.call 365 (.l1 V5)) (.l4 (.asgl 6 .nil) (.asg 5 (.callL 421 (.l2 V0 V5) 6)) (.asg 4 (.call 379 (.l1 (.bin .add (.call 526 (.l2 V5 V6)) (.lst (.l1 V4)))))) (.asg 5 .none)) .nil) (.ret (.call 372 (.l1 (.tup (.l6 I7 V2 V5 V3 V4 (.sub V1 I5)))))))⟩
noncomputable def bQ36:Fn:=⟨2,false,["sp","s","pre","e","waits","sections","labels","stmts","label"],[19,35,109,127,133,141,150,152],(.l7 (.asgl 2 .nil) (.asg 3 (.callL 421 (.l2 V0 (.sub V1 I1)) 2)) (.asg 4 (.bool false)) (.asgl 5 .nil) (.for2 6 7 (.sub V1 I2) (.l2 (.for1 8 V6 (.l1 (.iff (.bop true (.l2 (.cmp .eq (.sub V8 I0) I3) (.call 365 (.l1 (.sub V8 I3))))) (.l1 (.asg 4 (.bool true))) .nil))) (.app 5 (.tup (.l2 V6 (.call 491 (.l2 V0 V7))))))) (.iff V4 (.l1 (.ret (.callL 561 (.l3 V0 V3 V5) 2))) .nil) (.ret (.call 484 (.l2 V2 (.tup (.l4 I9 V3 (.blt .tuple V5) (.sub V1 I3)))))))⟩
noncomputable def bQ37:Fn:=⟨4,true,["pre","sp","e","sections","value","n","none_yet","numbered","place","found","kept","label","taken"],[0,4,16,17,31,32,35,44,47,53,62,63,110,111,118,123,125,129,150,152],(.l7 (.asg 4 (.callL 393 (.l2 V1 V2) 0)) (.asg 5 (.meth 344 V1 34 .nil)) (.app 0 (.tup (.l3 I94 V5 (.tup (.l3 I1 I7 (.int (-1))))))) (.asg 6 (.tup (.l6 I14 I1 (.str 25) (.tup (.l3 I91 I7 V5)) (.tup (.l3 I1 I7 (.int (-1)))) I0))) (.asgl 7 .nil) (.forR 8 (.blt .len V3) (.l4 (.asg 9 (.tup (.l3 I94 V5 (.tup (.l3 I1 I7 V8))))) (.asgl 10 (.l1 (.tup (.l2 I1 V8)))) (.for1 11 (.sub (.sub V3 V8) I0) (.l1 (.iff (.cmp .eq (.sub V11 I0) I2) (.l1 (.app 10 V11)) (.l2 (.asg 12 (.tup (.l4 I15 I1 V6 (.tup (.l4 I96 I1 V4 (.call 568 (.l1 V11))))))) (.app 0 (.call 372 (.l1 (.tup (.l4 I4 V12 (.call 575 (.l3 V1 V11 V9)) .none))))))))) (.app 7 (.tup (.l2 (.blt .tuple V10) (.sub (.sub V3 V8) I1)))))) (.ret (.call 484 (.l2 V0 (.tup (.l4 I9 (.tup (.l3 I91 I7 V5)) (.blt .tuple V7) I0))))))⟩
noncomputable def bQ38:Fn:=⟨1,false,["label"],[19],(.l2 (.iff (.cmp .eq (.sub V0 I0) I3) (.l1 (.ret (.bin .add (.upto V0 I3) (.tup (.l1 .none))))) .nil) (.ret V0))⟩
noncomputable def bQ39:Fn:=⟨3,false,["sp","label","found","pre","test"],[19,32,132,133],(.l4 (.iff (.bop false (.l2 (.cmp .ne (.sub V1 I0) I3) (.cmp .isN (.sub V1 I3) .none))) (.l1 (.ret V2)) .nil) (.asgl 3 .nil) (.asg 4 (.callL 421 (.l2 V0 (.sub V1 I3)) 3)) (.ret (.call 379 (.l1 (.bin .add V3 (.lst (.l1 (.tup (.l4 I4 V4 V2 .none)))))))))⟩
noncomputable def bQ40:Fn:=⟨2,false,["sp","s","rows","row"],[37,109,125,138,142,150],(.l3 (.asgl 2 .nil) (.for1 3 (.sub V1 I2) (.l2 (.iff (.call 365 (.l1 (.sub V3 I2))) .dead .nil) (.app 2 (.tup (.l4 (.sub V3 I0) (.sub V3 I1) (.sub V3 I2) (.call 505 (.l2 V0 (.sub V3 I3)))))))) (.ret (.call 372 (.l1 (.tup (.l4 I14 (.call 505 (.l2 V0 (.sub V1 I1))) (.blt .tuple V2) (.call 498 (.l2 V0 (.sub V1 I3)))))))))⟩
noncomputable def bQ41:Fn:=⟨1,false,["d","at"],[123],(.l4 (.asg 1 (.sub V0 (.str 1))) (.seti V0 (.str 1) (.bin .add V1 I1)) (.iff (.cmp .lt V1 (.blt .len (.sub V0 (.str 0)))) (.l1 (.ret (.sub (.sub V0 (.str 0)) V1))) .nil) (.ret (.bin .fdiv (.bin .add (.bin .mul V1 V1) (.sub V0 (.str 2))) I3)))⟩
noncomputable def bQ42:Fn:=⟨1,false,["d"],[],(.l2 (.seti V0 (.str 3) (.bin .add (.sub V0 (.str 3)) I1)) (.ret (.sub V0 (.str 3))))⟩
noncomputable def bQ43:Fn:=⟨2,false,["d","block","lid"],[123],(.l4 (.asg 2 (.blt .len (.sub V0 (.str 4)))) (.appr (.sub V0 (.str 4)) V1) (.seti (.sub V0 (.str 5)) V1 (.bin .add (.get (.sub V0 (.str 5)) V1 (.tup .nil)) (.tup (.l1 V2)))) (.ret V2))⟩
noncomputable def bQ44:Fn:=⟨3,false,["d","k","args"],[48,91,150],(.l1 (.ret (.tup (.l6 I8 V1 .none (.tup (.l3 (.sub V0 (.str 8)) (.call 596 (.l1 V0)) (.tup .nil))) (.blt .tuple V2) I0))))⟩
noncomputable def bQ45:Fn:=⟨2,false,["d","c"],[4,56,65,123],(.l1 (.ret (.tup (.l3 I2 I7 (.sub (.sub V1 I0) (.bin .mod (.call 589 (.l1 V0)) (.blt .len (.sub V1 I0))))))))⟩
noncomputable def bQ46:Fn:=⟨2,false,["d","c"],[55,123],(.l2 (.appr (.sub V0 (.str 6)) (.sub V1 I0)) (.ret (.tup (.l3 I24 (.sub V0 (.str 8)) (.bin .sub (.blt .len (.sub V0 (.str 6))) I1)))))⟩
noncomputable def bQ47:Fn:=⟨2,false,["d","c","what"],[4,46,53,65,71,88],(.l6 (.asg 2 (.bin .mod (.call 589 (.l1 V0)) I6)) (.iff (.cmp .eq V2 I0) (.l1 (.ret (.tup (.l3 I1 I7 (.bin .mod (.call 589 (.l1 V0)) I4))))) .nil) (.iff (.cmp .eq V2 I1) (.l1 (.ret (.call 617 (.l2 V0 V1)))) .nil) (.iff (.cmp .eq V2 I2) (.l1 (.ret (.call 610 (.l3 V0 I7 (.lst .nil))))) .nil) (.iff (.cmp .eq V2 I3) (.l1 (.ret (.call 610 (.l3 V0 I7 (.lst (.l3 (.call 617 (.l2 V0 V1)) (.tup (.l3 I30 I7 (.call 617 (.l2 V0 V1)))) (.call 617 (.l2 V0 V1)))))))) .nil) (.ret (.tup (.l3 I30 I7 (.call 617 (.l2 V0 V1))))))⟩
noncomputable def bQ48:Fn:=⟨2,false,["d","c","what","args"],[0,4,46,65,71,88],(.l5 (.asg 2 (.bin .mod (.call 589 (.l1 V0)) I3)) (.iff (.cmp .eq V2 I0) (.l1 (.ret (.tup (.l3 I30 I1 (.call 617 (.l2 V0 V1)))))) .nil) (.asgl 3 (.l1 (.call 617 (.l2 V0 V1)))) (.iff (.cmp .eq V2 I1) (.l1 (.app 3 (.tup (.l3 I30 I7 (.call 617 (.l2 V0 V1)))))) .nil) (.ret (.call 610 (.l3 V0 I1 V3))))⟩
noncomputable def bQ49:Fn:=⟨2,false,["d","c","what","e"],[4,23,24,28,33,34,36,40,45,46,65,71,83,85,88,106],(.l11 (.asg 2 (.bin .mod (.call 589 (.l1 V0)) I12)) (.iff (.cmp .lt V2 I2) (.l1 (.ret (.tup (.l2 I1 (.call 624 (.l2 V0 V1)))))) .nil) (.iff (.cmp .eq V2 I2) (.l1 (.ret (.tup (.l2 I1 (.tup (.l4 I22 I7 (.call 617 (.l2 V0 V1)) (.call 631 (.l2 V0 V1)))))))) .nil) (.iff (.cmp .eq V2 I3) (.l1 (.ret (.tup (.l3 I2 (.call 603 (.l2 V0 (.sub V1 I1))) .none)))) .nil) (.iff (.cmp .eq V2 I4) (.l2 (.asg 3 (.call 631 (.l2 V0 V1))) (.ret (.tup (.l3 I2 (.call 603 (.l2 V0 (.sub V1 I1))) V3)))) .nil) (.iff (.cmp .eq V2 I5) (.l1 (.ret (.tup (.l2 I13 (.ite (.bop true (.l2 (.sub V1 I3) (.cmp .eq (.bin .mod (.call 589 (.l1 V0)) I2) I0))) .none (.call 631 (.l2 V0 V1))))))) .nil) (.iff (.bop true (.l2 (.cmp .eq V2 I6) (.sub V1 I2))) (.l1 (.ret (.sub (.tup (.l2 (.tup (.l1 I10)) (.tup (.l1 I11)))) (.bin .mod (.call 589 (.l1 V0)) I2)))) .nil) (.iff (.bop true (.l2 (.cmp .eq V2 I7) (.cmp .eq (.bin .mod (.call 589 (.l1 V0)) I2) I0))) (.l1 (.ret (.tup (.l2 I12 (.ite (.cmp .eq (.bin .mod (.call 589 (.l1 V0)) I2) I0) .none (.call 631 (.l2 V0 V1))))))) .nil) (.iff (.cmp .eq V2 I8) (.l1 (.ret (.tup (.l2 I16 (.call 631 (.l2 V0 V1)))))) .nil) (.iff (.cmp .lt V2 I11) (.l1 (.ret (.tup (.l2 I1 (.tup (.l3 I30 I7 (.call 617 (.l2 V0 V1)))))))) .nil) (.ret (.tup (.l2 I1 (.call 610 (.l3 V0 I7 (.lst (.l1 (.call 617 (.l2 V0 V1))))))))))⟩
noncomputable def bQ50:Fn:=⟨4,false,["d","c","deep","count","rows","at","big","s"],[33,65,68,98,129],(.l3 (.asgl 4 .nil) (.forR 5 V3 (.l5 (.asg 6 (.bop true (.l3 (.cmp .gt V2 I0) (.cmp .eq (.bin .mod (.call 589 (.l1 V0)) I2) I0) (.cmp .gt (.sub V0 (.str 7)) I0)))) (.seti V0 (.str 7) (.bin .sub (.sub V0 (.str 7)) I1)) (.asg 7 (.ite V6 (.call 732 (.l3 V0 V1 (.bin .sub V2 I1))) (.call 645 (.l2 V0 V1)))) (.app 4 V7) (.iff (.cmp .eq (.sub V7 I0) I2) (.l1 (.asg 1 (.bin .add (.tup (.l1 (.bin .add (.sub V1 I0) (.tup (.l1 (.sub V7 I1)))))) (.frm V1 I1)))) .nil))) (.ret V4))⟩
noncomputable def bQ51:Fn:=⟨3,false,["d","c","deep","number","rows"],[22,26,27,65,91,97,123,150],(.l4 (.asg 3 (.call 596 (.l1 V0))) (.asg 4 (.call 652 (.l4 V0 (.tup (.l4 (.sub V1 I0) V3 (.sub V1 I2) (.sub V1 I3))) V2 (.bin .add I1 (.bin .mod (.call 589 (.l1 V0)) I2))))) (.iff (.bop true (.l2 (.cmp .eq (.blt .len V4) I1) (.cmp .eq (.sub (.sub V4 I0) I0) I6))) (.l1 (.asg 4 (.bin .add (.lst (.l1 (.tup (.l1 I18)))) V4))) .nil) (.ret (.tup (.l3 I3 (.blt .tuple V4) V3))))⟩
noncomputable def bQ52:Fn:=⟨2,false,["c","lids"],[],(.l1 (.ret (.tup (.l4 (.bin .add (.sub V0 I0) V1) (.sub V0 I1) I1 (.sub V0 I3)))))⟩
noncomputable def bQ53:Fn:=⟨3,false,["d","c","deep","number","mine","body","value","inner","test"],[0,4,22,26,45,56,69,71,83,85,88,89,91,106],(.l7 (.asg 3 (.call 596 (.l1 V0))) (.asg 4 (.call 603 (.l2 V0 V3))) (.asg 5 (.call 659 (.l3 V0 (.call 666 (.l2 V1 (.tup .nil))) V2))) (.asg 6 (.call 631 (.l2 V0 V1))) (.asg 7 (.tup (.l4 (.bin .add (.sub V1 I0) (.tup (.l1 V4))) V3 I0 I0))) (.asg 8 (.call 610 (.l3 V0 I1 (.lst (.l3 (.tup (.l4 I22 I7 (.tup (.l3 I2 I7 V4)) V6)) (.call 624 (.l2 V0 V7)) (.call 617 (.l2 V0 V7))))))) (.ret (.tup (.l3 I3 (.tup (.l1 (.tup (.l3 I6 V5 V8)))) V3))))⟩
noncomputable def bQ54:Fn:=⟨3,false,["d","c","deep","number","mine","inner","first","test","e"],[4,28,29,33,45,56,65,69,71,85,88,89,91,101,106],(.l8 (.asg 3 (.call 596 (.l1 V0))) (.asg 4 (.call 603 (.l2 V0 V3))) (.asg 5 (.call 666 (.l2 V1 (.tup (.l1 V4))))) (.asg 6 (.tup (.l3 I2 V4 (.ite (.cmp .eq (.bin .mod (.call 589 (.l1 V0)) I3) I0) .none (.call 631 (.l2 V0 V1)))))) (.asg 7 (.ite (.cmp .eq (.bin .mod (.call 589 (.l1 V0)) I3) I0) .none (.call 638 (.l2 V0 V5)))) (.asg 8 (.call 610 (.l3 V0 I7 (.lst (.l2 (.call 617 (.l2 V0 V5)) (.call 631 (.l2 V0 V5))))))) (.iff (.bin .mod (.call 589 (.l1 V0)) I2) (.l1 (.asg 8 (.tup (.l4 I22 I7 (.tup (.l3 I2 I7 V4)) V8)))) .nil) (.ret (.tup (.l6 I7 (.tup (.l1 V6)) V7 (.tup (.l1 (.tup (.l2 I1 V8)))) (.call 659 (.l3 V0 V5 V2)) V3))))⟩
noncomputable def bQ55:Fn:=⟨3,false,["d","c","deep","number","mine","more","turned","e"],[2,4,30,54,65,69,71,85,89,91,106],(.l7 (.asg 3 (.call 596 (.l1 V0))) (.asg 4 (.call 603 (.l2 V0 V3))) (.asg 5 (.call 603 (.l2 V0 V3))) (.asg 6 (.tup (.l2 I32 I7))) (.iff (.bin .mod (.call 589 (.l1 V0)) I2) (.l1 (.asg 6 (.call 610 (.l3 V0 I7 (.lst (.l1 V6)))))) .nil) (.asg 7 (.call 631 (.l2 V0 V1))) (.ret (.tup (.l6 I8 V4 V7 (.call 659 (.l3 V0 (.call 666 (.l2 V1 (.tup (.l2 V4 V5)))) V2)) (.tup (.l2 I1 V6)) V3))))⟩
noncomputable def bQ56:Fn:=⟨4,false,["d","c","sort","at","what","lid","inner"],[16,18,19,65,101,106],(.l6 (.iff (.cmp .eq V2 I0) (.l1 (.ret (.tup (.l2 I1 (.bin .add (.bin .mul (.bin .mod (.call 589 (.l1 V0)) I2) I2) V3))))) .nil) (.asg 4 (.bin .mod (.call 589 (.l1 V0)) I4)) (.iff (.cmp .eq V4 I0) (.l1 (.ret (.tup (.l1 I4)))) .nil) (.asg 5 (.ite (.cmp .gt V4 I1) (.call 603 (.l2 V0 (.sub V1 I1))) I0)) (.asg 6 (.ite (.cmp .eq V5 I0) V1 (.bin .add (.tup (.l1 (.bin .add (.sub V1 I0) (.tup (.l1 V5))))) (.frm V1 I1)))) (.ret (.tup (.l4 I3 (.ite (.cmp .eq V4 I2) (.sub V0 (.str 8)) (.sub V0 (.str 9))) V5 (.ite (.bin .mod (.call 589 (.l1 V0)) I2) (.call 638 (.l2 V0 V6)) .none)))))⟩
noncomputable def bQ57:Fn:=⟨3,false,["d","c","deep","number","sort","e","rows","rest","waits","at","mine","out","label","labels","lid","lids","inner","one"],[17,19,22,23,28,35,65,83,85,87,91,97,106,108,129,150],(.l12 (.asg 3 (.call 596 (.l1 V0))) (.asg 1 (.tup (.l4 (.sub V1 I0) V3 (.sub V1 I2) (.sub V1 I3)))) (.asg 4 (.bin .mod (.call 589 (.l1 V0)) I2)) (.asg 5 (.call 631 (.l2 V0 V1))) (.asgl 6 .nil) (.asg 7 (.bin .mod (.call 589 (.l1 V0)) I3)) (.asg 8 (.bool false)) (.forR 9 I2 (.l4 (.asg 12 (.call 694 (.l4 V0 V1 V4 V9))) (.asg 8 (.bop false (.l2 V8 (.bop true (.l2 (.cmp .eq (.sub V12 I0) I3) (.call 706 (.l1 (.sub V12 I3)))))))) (.asg 13 (.ite (.cmp .eq V7 V9) (.tup (.l2 V12 (.tup (.l1 I2)))) (.tup (.l1 V12)))) (.app 6 (.tup (.l2 V13 (.ite (.cmp .eq (.sub V12 I0) I3) (.sub V12 I2) I0)))))) (.asg 10 (.ite V8 I0 (.call 603 (.l2 V0 V3)))) (.asgl 11 .nil) (.for2 13 14 V6 (.l3 (.asg 15 (.blt .tuple (.compF 17 (.tup (.l2 V10 V14))))) (.asg 16 (.bin .add (.tup (.l1 (.bin .add (.sub V1 I0) V15))) (.frm V1 I1))) (.app 11 (.tup (.l2 V13 (.bin .add (.bin .add (.tup (.l1 (.tup (.l2 I1 (.call 624 (.l2 V0 V16)))))) (.blt .tuple (.call 652 (.l4 V0 V16 V2 I1)))) (.tup (.l1 (.tup (.l1 I10)))))))))) (.ret (.tup (.l3 I3 (.tup (.l1 (.tup (.l4 I9 V5 (.blt .tuple V11) V10)))) V3))))⟩
noncomputable def bQ58:Fn:=⟨1,false,["e"],[46,123],(.l2 (.iff (.bop false (.l2 (.cmp .isN V0 .none) (.cmp .eq (.sub V0 I0) I30))) (.l1 (.ret (.cmp .isntN V0 .none))) .nil) (.ret (.cmp .gt (.blt .len (.sub V0 I4)) I1)))⟩
noncomputable def bQ59:Fn:=⟨3,false,["d","c","deep","number","mine","e","gone","body"],[4,22,38,56,65,69,71,85,91,106],(.l6 (.asg 3 (.call 596 (.l1 V0))) (.asg 4 (.call 603 (.l2 V0 V3))) (.asg 5 (.call 631 (.l2 V0 V1))) (.asg 6 (.ite (.cmp .eq (.bin .mod (.call 589 (.l1 V0)) I3) I0) .none (.call 610 (.l3 V0 I7 (.lst (.l1 (.tup (.l3 I2 I7 V4)))))))) (.asg 7 (.call 659 (.l3 V0 (.bin .add (.tup (.l1 (.bin .add (.sub V1 I0) (.tup (.l1 V4))))) (.frm V1 I1)) V2))) (.ret (.tup (.l3 I3 (.tup (.l1 (.tup (.l5 I15 V4 V5 V6 V7)))) V3))))⟩
noncomputable def bQ60:Fn:=⟨3,false,["d","c","deep","number","lid","inner","when","rows"],[0,22,28,65,71,83,88,91,97,106,150],(.l6 (.asg 3 (.call 596 (.l1 V0))) (.asg 4 (.ite (.bin .mod (.call 589 (.l1 V0)) I3) (.call 603 (.l2 V0 V3)) I0)) (.asg 5 (.tup (.l4 (.ite V4 (.bin .add (.sub V1 I0) (.tup (.l1 V4))) (.sub V1 I0)) V3 (.sub V1 I2) I1))) (.asg 6 (.ite (.bin .mod (.call 589 (.l1 V0)) I3) .none (.call 610 (.l3 V0 I1 (.lst (.l1 (.call 617 (.l2 V0 V5)))))))) (.asg 7 (.bin .add (.lst (.l1 (.tup (.l2 I1 (.call 624 (.l2 V0 V5)))))) (.call 652 (.l4 V0 V5 V2 (.bin .add I1 (.bin .mod (.call 589 (.l1 V0)) I2)))))) (.ret (.tup (.l4 (.sub (.tup (.l3 (.sub V0 (.str 8)) (.int (-1)) (.sub V0 (.str 9)))) (.bin .mod (.call 589 (.l1 V0)) I3)) V4 V6 (.tup (.l3 I3 (.blt .tuple V7) V3))))))⟩
noncomputable def bQ61:Fn:=⟨3,false,["d","c","deep","body","rows","last","at"],[37,65,69,84,129,150],(.l5 (.asg 3 (.call 659 (.l3 V0 V1 V2))) (.asgC false 4 [0,1,2] (.call 720 (.l3 V0 V1 V2)) 6 (.bin .mod (.call 589 (.l1 V0)) I3)) (.asg 5 .none) (.iff (.bop false (.l2 (.cmp .eq V4 (.lst .nil)) (.bin .mod (.call 589 (.l1 V0)) I2))) (.l1 (.asg 5 (.call 659 (.l3 V0 (.tup (.l4 (.sub V1 I0) (.sub V1 I1) I0 I0)) V2)))) .nil) (.ret (.tup (.l4 I14 V3 (.blt .tuple V4) V5))))⟩
noncomputable def bQ62:Fn:=⟨3,false,["d","c","deep","what","test","yes","body"],[26,32,39,65,69,73,79,81,89,99,101,102,105],(.l9 (.asg 3 (.bin .mod (.call 589 (.l1 V0)) I10)) (.iff (.cmp .eq V3 I0) (.l3 (.asg 4 (.call 638 (.l2 V0 V1))) (.asg 5 (.call 659 (.l3 V0 V1 V2))) (.ret (.tup (.l4 I4 V4 V5 (.ite (.bin .mod (.call 589 (.l1 V0)) I2) (.call 659 (.l3 V0 V1 V2)) .none))))) .nil) (.iff (.cmp .eq V3 I1) (.l2 (.asg 4 (.call 638 (.l2 V0 V1))) (.ret (.tup (.l3 I5 V4 (.call 659 (.l3 V0 (.call 666 (.l2 V1 (.tup .nil))) V2)))))) .nil) (.iff (.cmp .eq V3 I2) (.l2 (.asg 6 (.call 659 (.l3 V0 (.call 666 (.l2 V1 (.tup .nil))) V2))) (.ret (.tup (.l3 I6 V6 (.call 638 (.l2 V0 V1)))))) .nil) (.iff (.cmp .eq V3 I3) (.l1 (.ret (.call 673 (.l3 V0 V1 V2)))) .nil) (.iff (.cmp .lt V3 I6) (.l1 (.ret (.call 680 (.l3 V0 V1 V2)))) .nil) (.iff (.cmp .eq V3 I6) (.l1 (.ret (.call 687 (.l3 V0 V1 V2)))) .nil) (.iff (.cmp .eq V3 I7) (.l1 (.ret (.call 699 (.l3 V0 V1 V2)))) .nil) (.ret (.ite (.cmp .eq V3 I8) (.call 713 (.l3 V0 V1 V2)) (.call 725 (.l3 V0 V1 V2)))))⟩
noncomputable def bQ63:Fn:=⟨2,false,["w","value"],[],(.l2 (.seti V0 (.str 10) (.bin .add (.sub V0 (.str 10)) I1)) (.ret (.newl (.l2 V1 (.sub V0 (.str 10))))))⟩
noncomputable def bQ64:Fn:=⟨2,false,["w","number","lid"],[82],(.l1 (.for1 2 (.get (.sub V0 (.str 5)) V1 (.tup .nil)) (.l1 (.seti (.sub V0 (.str 19)) V2 (.call 739 (.l2 V0 I0))))))⟩
noncomputable def bQ65:Fn:=⟨3,false,["w","lid","value"],[],(.l1 (.iff (.not (.sub V0 (.str 13))) (.l1 (.seti (.sub (.sub V0 (.str 19)) V1) I0 V2)) .nil))⟩
noncomputable def bQ66:Fn:=⟨2,false,["w","row"],[],(.l2 (.iff (.cmp .gt (.sub V0 (.str 11)) I13) (.l1 (.seti V0 (.str 13) (.bool true))) .nil) (.iff (.not (.sub V0 (.str 13))) (.l2 (.seti V0 (.str 11) (.bin .add (.sub V0 (.str 11)) I1)) (.appr (.sub V0 (.str 12)) V1)) .nil))⟩
noncomputable def bQ67:Fn:=⟨2,false,["w","fnid","row","lid","cell"],[123],(.l4 (.iff (.sub V0 (.str 13)) (.l1 .ret0) .nil) (.asgl 2 .nil) (.for1 3 (.sub (.sub V0 (.str 6)) V1) (.l3 (.asg 4 (.sub (.sub V0 (.str 19)) V3)) (.iff (.cmp .notin (.sub V4 I1) (.sub V0 (.str 14))) (.l2 (.seti (.sub V0 (.str 14)) (.sub V4 I1) (.blt .len (.sub V0 (.str 15)))) (.appr (.sub V0 (.str 15)) V4)) .nil) (.app 2 (.sub (.sub V0 (.str 14)) (.sub V4 I1))))) (.appr (.sub V0 (.str 12)) (.tup (.l3 (.str 21) V1 V2))))⟩
noncomputable def bQ68:Fn:=⟨2,false,["w","task"],[90,94],(.l3 (.ex (.call 760 (.l2 V0 (.tup (.l2 (.str 22) V1))))) (.ex (.call 753 (.l3 V0 I1 (.bin .mod (.bin .add (.sub (.sub (.sub V0 (.str 19)) I1) I0) I1) I4)))) (.ret (.bin .mod (.sub V0 (.str 11)) I4)))⟩
noncomputable def bQ69:Fn:=⟨3,false,["w","value","label"],[16,18,77,94],(.l5 (.iff (.cmp .eq (.sub V2 I0) I1) (.l1 (.ret (.cmp .eq V1 (.sub V2 I1)))) .nil) (.iff (.cmp .eq (.sub V2 I0) I4) (.l1 (.ret (.cmp .eq V1 I0))) .nil) (.iff (.bop true (.l2 (.cmp .ne V1 I2) (.bop false (.l2 (.cmp .ne V1 I1) (.cmp .ne (.sub V2 I1) (.sub V0 (.str 8))))))) (.l1 (.ret (.bool false))) .nil) (.iff (.sub V2 I2) (.l1 (.ex (.call 753 (.l3 V0 (.sub V2 I2) V1)))) .nil) (.ret (.bop false (.l2 (.cmp .isN (.sub V2 I3) .none) (.cmp .eq (.bin .mod (.call 786 (.l2 V0 (.sub V2 I3))) I2) I1)))))⟩
noncomputable def bQ70:Fn:=⟨2,false,["w","e","code","args","value","arg"],[44,45,46,47,48,53,54,55,56,62,63,77,86,90,94,100,107,120],(.cons (.asg 2 (.sub V1 I0)) (.cons (.iff (.cmp .eq V2 I1) (.l1 (.ret (.sub V1 I2))) .nil) (.cons (.iff (.cmp .eq V2 I2) (.l1 (.ret (.sub (.sub (.sub V0 (.str 19)) (.sub V1 I2)) I0))) .nil) (.cons (.iff (.cmp .eq V2 I91) (.l1 (.ret (.sub (.sub V0 (.str 16)) (.sub V1 I2)))) .nil) (.cons (.iff (.cmp .eq V2 I32) (.l1 (.ret (.sub V0 (.str 17)))) .nil) (.cons (.iff (.cmp .eq V2 I8) (.l3 (.asgC true 3 [0] (.call 786 (.l2 V0 V5)) 5 (.sub V1 I4)) (.ex (.call 760 (.l2 V0 (.tup (.l3 (.str 23) (.sub (.sub V1 I3) I1) V3))))) (.ret (.bin .mod (.bin .add (.bin .mul (.sub V0 (.str 11)) I3) (.sub (.sub V1 I3) I1)) I4))) .nil) (.cons (.iff (.cmp .eq V2 I30) (.l2 (.iff (.sub V0 (.str 20)) (.l1 (.ex (.call 760 (.l2 V0 (.tup (.l1 (.str 7))))))) .nil) (.ret (.call 774 (.l2 V0 (.call 786 (.l2 V0 (.sub V1 I2))))))) .nil) (.cons (.iff (.cmp .eq V2 I22) (.l3 (.asg 4 (.call 786 (.l2 V0 (.sub V1 I3)))) (.ex (.call 753 (.l3 V0 (.sub (.sub V1 I2) I2) V4))) (.ret V4)) .nil) (.cons (.iff (.cmp .eq V2 I24) (.l2 (.ex (.call 767 (.l2 V0 (.sub V1 I2)))) (.ret I0)) .nil) (.cons (.iff (.cmp .eq V2 I14) (.l1 (.ret (.blt .int (.cmp .eq (.call 786 (.l2 V0 (.sub V1 I3))) (.call 786 (.l2 V0 (.sub V1 I4))))))) .nil) (.cons (.iff (.cmp .eq V2 I15) (.l1 (.ret (.ite (.cmp .eq (.bin .mod (.call 786 (.l2 V0 (.sub V1 I2))) I2) I1) (.call 786 (.l2 V0 (.sub V1 I3))) I0))) .nil) (.cons (.iff (.cmp .eq V2 I96) (.l1 (.ret (.blt .int (.call 781 (.l3 V0 (.call 786 (.l2 V0 (.sub V1 I2))) (.sub V1 I3)))))) .nil) .dead))))))))))))⟩
noncomputable def bQ71:Fn:=⟨1,false,["flow"],[],(.l1 (.ret (.ite (.cmp .eq (.sub V0 I0) I1) (.tup (.l2 I0 .none)) V0)))⟩
noncomputable def bQ72:Fn:=⟨2,false,["w","stmts","s","flow"],[78],(.l2 (.for1 2 V1 (.l2 (.asg 3 (.call 870 (.l2 V0 V2))) (.iff (.sub V3 I0) (.l1 (.ret V3)) .nil))) (.ret (.tup (.l2 I0 .none))))⟩
noncomputable def bQ73:Fn:=⟨1,false,["s"],[25],(.l1 (.ret (.ite (.cmp .eq (.sub V0 I0) I93) (.sub V0 I1) V0)))⟩
noncomputable def bQ74:Fn:=⟨3,false,["w","s","begun"],[26,66,67,74,96,123],(.l3 (.iff (.not V2) (.l1 (.ex (.call 746 (.l2 V0 (.sub V1 I2))))) .nil) (.iff (.bop true (.l2 (.cmp .eq (.blt .len (.sub V1 I1)) I1) (.cmp .eq (.sub (.call 807 (.l1 (.sub (.sub V1 I1) I0))) I0) I6))) (.l1 (.ret (.call 821 (.l3 V0 (.call 807 (.l1 (.sub (.sub V1 I1) I0))) (.sub V1 I2))))) .nil) (.ret (.call 800 (.l2 V0 (.sub V1 I1)))))⟩
noncomputable def bQ75:Fn:=⟨3,false,["w","s","number","flow"],[67,76,77,78],(.l1 (.whl (.bool true) (.l4 (.asg 3 (.call 870 (.l2 V0 (.sub V1 I1)))) (.iff (.cmp .notin (.sub V3 I0) (.tup (.l2 I0 I2))) (.l1 (.ret (.call 793 (.l1 V3)))) .nil) (.ex (.call 746 (.l2 V0 V2))) (.iff (.cmp .eq (.bin .mod (.call 786 (.l2 V0 (.sub V1 I2))) I2) I0) (.l1 (.ret (.tup (.l2 I0 .none)))) .nil))))⟩
noncomputable def bQ76:Fn:=⟨2,false,["w","s","flow"],[67,76,77,78,96],(.l4 (.ex (.call 746 (.l2 V0 (.sub V1 I5)))) (.asg 2 (.call 800 (.l2 V0 (.sub V1 I1)))) (.whl (.bop true (.l2 (.cmp .eq (.sub V2 I0) I0) (.bop false (.l2 (.cmp .isN (.sub V1 I2) .none) (.cmp .eq (.bin .mod (.call 786 (.l2 V0 (.sub V1 I2))) I2) I1))))) (.l3 (.asg 2 (.call 870 (.l2 V0 (.sub V1 I4)))) (.iff (.cmp .notin (.sub V2 I0) (.tup (.l2 I0 I2))) (.l1 (.ret (.call 793 (.l1 V2)))) .nil) (.asg 2 (.call 800 (.l2 V0 (.sub V1 I3)))))) (.ret V2))⟩
noncomputable def bQ77:Fn:=⟨2,false,["w","s","number","value","flow"],[67,76,77,78,82],(.l4 (.asg 2 (.call 786 (.l2 V0 (.sub V1 I2)))) (.iff (.cmp .eq V2 I0) (.l1 (.ret (.tup (.l2 I4 I0)))) .nil) (.for1 3 (.sub (.tup (.l3 (.tup (.l1 I2)) (.tup (.l2 I1 I3)) (.tup (.l3 I3 I0 I2)))) (.bin .sub V2 I1)) (.l5 (.ex (.call 746 (.l2 V0 (.sub V1 I5)))) (.seti V0 (.str 17) V3) (.seti (.sub V0 (.str 19)) (.sub V1 I1) (.call 739 (.l2 V0 (.call 786 (.l2 V0 (.sub (.sub V1 I4) I1)))))) (.asg 4 (.call 870 (.l2 V0 (.sub V1 I3)))) (.iff (.cmp .notin (.sub V4 I0) (.tup (.l2 I0 I2))) (.l1 (.ret (.call 793 (.l1 V4)))) .nil))) (.ret (.tup (.l2 I0 .none))))⟩
noncomputable def bQ78:Fn:=⟨2,false,["w","s","value","rest","labels","stmts","label"],[17,76,77,82,96,100],(.l5 (.asg 2 (.call 786 (.l2 V0 (.sub V1 I1)))) (.iff (.sub V1 I3) (.l1 (.seti (.sub V0 (.str 19)) (.sub V1 I3) (.call 739 (.l2 V0 V2)))) .nil) (.asg 3 (.tup .nil)) (.for2 4 5 (.sub V1 I2) (.l1 (.for1 6 V4 (.l1 (.iff (.cmp .eq (.sub V6 I0) I2) (.l1 (.asg 3 V5)) (.l1 (.iff (.call 781 (.l3 V0 V2 V6)) (.l1 (.ret (.call 793 (.l1 (.call 800 (.l2 V0 V5)))))) .nil))))))) (.ret (.call 793 (.l1 (.call 800 (.l2 V0 V3))))))⟩
noncomputable def bQ79:Fn:=⟨2,false,["w","s","flow"],[77,78,82],(.l4 (.seti (.sub V0 (.str 19)) (.sub V1 I1) (.call 739 (.l2 V0 (.call 786 (.l2 V0 (.sub V1 I2)))))) (.asg 2 (.call 870 (.l2 V0 (.sub V1 I4)))) (.iff (.bop true (.l2 (.cmp .isntN (.sub V1 I3) .none) (.cmp .ne (.sub (.sub (.sub V0 (.str 19)) (.sub V1 I1)) I0) I0))) (.l1 (.ex (.call 786 (.l2 V0 (.sub V1 I3))))) .nil) (.ret V2))⟩
noncomputable def bQ80:Fn:=⟨3,false,["w","row","item","kind","lid","when","body"],[66,67,77,82],(.l5 (.unp [3,4,5,6] V1) (.iff (.bop false (.l2 (.bop true (.l2 (.cmp .eq V3 (.sub V0 (.str 8))) (.cmp .notin V2 (.tup (.l2 I1 I2))))) (.bop true (.l2 (.cmp .eq V3 (.sub V0 (.str 9))) (.cmp .ne V2 I2))))) (.l1 (.ret (.bool false))) .nil) (.ex (.call 746 (.l2 V0 (.sub (.call 807 (.l1 V6)) I2)))) (.iff V4 (.l1 (.seti (.sub V0 (.str 19)) V4 (.call 739 (.l2 V0 V2)))) .nil) (.ret (.bop false (.l2 (.cmp .isN V5 .none) (.cmp .eq (.bin .mod (.call 786 (.l2 V0 V5)) I2) I1)))))⟩
noncomputable def bQ81:Fn:=⟨2,false,["w","s","flow","row","last"],[66,70,72,78],(.l4 (.asg 2 (.call 870 (.l2 V0 (.sub V1 I1)))) (.iff (.cmp .eq (.sub V2 I0) I4) (.l1 (.for1 3 (.sub V1 I2) (.l1 (.iff (.call 856 (.l3 V0 V3 (.sub V2 I1))) (.l4 (.appr (.sub V0 (.str 18)) (.sub V2 I1)) (.asg 2 (.call 814 (.l3 V0 (.call 807 (.l1 (.sub V3 I3))) (.bool true)))) (.popr (.sub V0 (.str 18))) .brk) .nil)))) .nil) (.iff (.cmp .isntN (.sub V1 I3) .none) (.l2 (.asg 4 (.call 870 (.l2 V0 (.sub V1 I3)))) (.iff (.sub V4 I0) (.l1 (.ret V4)) .nil)) .nil) (.ret V2))⟩
noncomputable def bQ82:Fn:=⟨2,false,["w","s","code","flow"],[21,22,23,24,27,28,31,32,33,34,36,39,40,66,70,76,77,78,90,92,94,107],(.l6 (.asg 1 (.call 807 (.l1 V1))) (.asg 2 (.sub V1 I0)) (.iff (.sub V0 (.str 13)) (.l1 (.ret (.tup (.l2 I5 .none)))) .nil) (.iff (.cmp .eq V2 I3) (.l1 (.ret (.call 814 (.l3 V0 V1 (.bool false))))) .nil) (.iff (.cmp .eq V2 I1) (.l1 (.ex (.call 786 (.l2 V0 (.sub V1 I1))))) (.l1 (.iff (.cmp .eq V2 I94) (.l1 (.seti (.sub V0 (.str 16)) (.sub V1 I1) (.call 786 (.l2 V0 (.sub V1 I2))))) (.l1 (.iff (.cmp .eq V2 I95) (.l1 (.seti (.sub V0 (.str 16)) (.sub V1 I1) (.call 774 (.l2 V0 (.call 786 (.l2 V0 (.sub V1 I2))))))) (.l1 (.iff (.cmp .eq V2 I2) (.l1 (.iff (.cmp .isntN (.sub V1 I2) .none) (.l1 (.ex (.call 753 (.l3 V0 (.sub V1 I1) (.call 786 (.l2 V0 (.sub V1 I2))))))) .nil)) (.l1 (.iff (.cmp .eq V2 I16) (.l1 (.ex (.call 760 (.l2 V0 (.tup (.l2 (.str 24) (.call 786 (.l2 V0 (.sub V1 I1))))))))) (.l1 (.iff (.cmp .eq V2 I4) (.l2 (.iff (.cmp .eq (.bin .mod (.call 786 (.l2 V0 (.sub V1 I1))) I2) I1) (.l1 (.ret (.call 870 (.l2 V0 (.sub V1 I2))))) .nil) (.ret (.ite (.cmp .isN (.sub V1 I3) .none) (.tup (.l2 I0 .none)) (.call 870 (.l2 V0 (.sub V1 I3)))))) (.l1 (.iff (.cmp .eq V2 I5) (.l1 (.whl (.cmp .eq (.bin .mod (.call 786 (.l2 V0 (.sub V1 I1))) I2) I1) (.l2 (.asg 3 (.call 870 (.l2 V0 (.sub V1 I2)))) (.iff (.cmp .notin (.sub V3 I0) (.tup (.l2 I0 I2))) (.l1 (.ret (.call 793 (.l1 V3)))) .nil)))) (.l1 (.iff (.cmp .eq V2 I10) (.l1 (.ret (.tup (.l2 I1 .none)))) (.l1 (.iff (.cmp .eq V2 I11) (.l1 (.ret (.tup (.l2 I2 .none)))) (.l1 (.iff (.cmp .eq V2 I12) (.l1 (.ret (.tup (.l2 I3 (.ite (.cmp .isN (.sub V1 I1) .none) .none (.call 786 (.l2 V0 (.sub V1 I1)))))))) (.l1 (.iff (.cmp .eq V2 I13) (.l1 (.ret (.tup (.l2 I4 (.ite (.cmp .isN (.sub V1 I1) .none) (.sub (.sub V0 (.str 18)) (.int (-1))) (.call 786 (.l2 V0 (.sub V1 I1)))))))) (.l1 (.iff (.cmp .ne V2 I18) (.l1 (.ret (.call 877 (.l2 V0 V1)))) .nil))))))))))))))))))))))) (.ret (.tup (.l2 I0 .none))))⟩
noncomputable def bQ83:Fn:=⟨2,false,["w","s","code"],[26,29,30,35,37,38,74,75,80,93,103,104],(.cons (.asg 2 (.sub V1 I0)) (.cons (.iff (.cmp .eq V2 I6) (.l1 (.ret (.call 821 (.l3 V0 V1 I0)))) .nil) (.cons (.iff (.cmp .eq V2 I7) (.l1 (.ret (.call 828 (.l2 V0 V1)))) .nil) (.cons (.iff (.cmp .eq V2 I8) (.l1 (.ret (.call 835 (.l2 V0 V1)))) .nil) (.cons (.iff (.cmp .eq V2 I9) (.l1 (.ret (.call 842 (.l2 V0 V1)))) .nil) (.cons (.iff (.cmp .eq V2 I15) (.l1 (.ret (.call 849 (.l2 V0 V1)))) .nil) (.cons (.iff (.cmp .eq V2 I14) (.l1 (.ret (.call 863 (.l2 V0 V1)))) .nil) .dead)))))))⟩
noncomputable def bQ84:Fn:=⟨3,false,["d","body","ready","w","lid","flow","cell"],[78,82,123,129],(.l5 (.asg 3 (.newd [8,9,5,6,10,11,12,13,14,15,16,17,18,19,20] (.cons (.sub V0 (.str 8)) (.cons (.sub V0 (.str 9)) (.cons (.sub V0 (.str 5)) (.l12 (.sub V0 (.str 6)) I0 I0 (.newl .nil) (.bool false) .newi (.newl .nil) .newi I0 (.newl .nil) (.newl .nil) V2)))))) (.forR 4 (.blt .len (.sub V0 (.str 4))) (.l1 (.appr (.sub V3 (.str 19)) (.call 739 (.l2 V3 (.bin .mod V4 I3)))))) (.asg 5 (.call 870 (.l2 V3 V1))) (.iff (.sub V3 (.str 13)) (.l1 (.asg 5 (.tup (.l2 I5 .none)))) .nil) (.ret (.tup (.l4 (.sub V3 (.str 12)) V5 (.compS 6 (.sub V3 (.str 15))) (.compS 6 (.mid (.sub V3 (.str 19)) I1 I3))))))⟩
noncomputable def bQ85:Fn:=⟨1,false,["script","kt","d","turn","body"],[7,10,41,69,95,123,129,142,147],(.l6 (.asg 0 (.upto V0 I40)) (.asg 1 (.new 91 74 .nil)) (.asg 2 (.newd [0,1,2,3,4,5,6,7,8,9] (.l10 V0 I0 (.bin .mod (.blt .sum V0) (.int 1009)) I0 (.newl (.l3 I0 I0 I0)) .newi (.newl .nil) I0 (.meth 88 V1 35 (.l1 (.tup (.l3 I2 I72 (.tup .nil))))) (.meth 88 V1 35 (.l1 (.tup (.l3 I2 I73 (.tup .nil)))))))) (.iff (.cmp .eq (.blt .len V0) I0) (.l1 (.seti V2 (.str 0) (.lst (.cons I1 (.cons I0 (.cons I1 (.cons I0 (.cons I0 (.cons I0 (.cons I0 (.cons I4 (.cons I1 (.cons I2 (.cons I1 (.cons I1 (.cons I2 (.cons I0 (.cons I2 (.cons I4 (.l12 I1 I0 I1 I1 I0 I1 I6 I0 I1 I7 I0 I0)))))))))))))))))))) .nil) (.forR 3 (.bin .add I1 (.bin .fdiv (.blt .len V0) I20)) (.l3 (.seti V2 (.str 7) I9) (.asg 4 (.call 659 (.l3 V2 (.tup (.l4 (.tup (.l2 I1 I2)) I0 I0 I0)) I4))) (.iff (.cmp .ne (.call 882 (.l3 V2 (.call 505 (.l2 (.new 347 337 (.l1 V1)) V4)) (.bool true))) (.call 882 (.l3 V2 V4 (.bool false)))) (.l1 (.ret (.bool false))) .nil))) (.ret (.bool true)))⟩
noncomputable def codeTab:List (Nat × Fn):=[(74,bQ0),(88,bQ1),(102,bQ2),(109,bQ3),(116,bQ4),(123,bQ5),(130,bQ6),(137,bQ7),(275,bQ8),(282,bQ9),(289,bQ10),(301,bQ11),(308,bQ12),(315,bQ13),(337,bQ14),(344,bQ15),(358,bQ16),(365,bQ17),(372,bQ18),(379,bQ19),(393,bQ20),(400,bQ21),(421,bQ22),(428,bQ23),(470,bQ24),(477,bQ25),(484,bQ26),(491,bQ27),(498,bQ28),(505,bQ29),(512,bQ30),(519,bQ31),(526,bQ32),(533,bQ33),(540,bQ34),(547,bQ35),(554,bQ36),(561,bQ37),(568,bQ38),(575,bQ39),(582,bQ40),(589,bQ41),(596,bQ42),(603,bQ43),(610,bQ44),(617,bQ45),(624,bQ46),(631,bQ47),(638,bQ48),(645,bQ49),(652,bQ50),(659,bQ51),(666,bQ52),(673,bQ53),(680,bQ54),(687,bQ55),(694,bQ56),(699,bQ57),(706,bQ58),(713,bQ59),(720,bQ60),(725,bQ61),(732,bQ62),(739,bQ63),(746,bQ64),(753,bQ65),(760,bQ66),(767,bQ67),(774,bQ68),(781,bQ69),(786,bQ70),(793,bQ71),(800,bQ72),(807,bQ73),(814,bQ74),(821,bQ75),(828,bQ76),(835,bQ77),(842,bQ78),(849,bQ79),(856,bQ80),(863,bQ81),(870,bQ82),(877,bQ83),(882,bQ84),(889,bQ85)]
noncomputable def code(a:Nat):Option Fn:=codeTab.lookup a
noncomputable def gtab:List (String × GV):=[("BOOL",.int 1),("DEEPEST_KIND",.int 24),("FE_ARRAY",.int 1),("HEAVIEST_KIND",.int 4096),("I4",.int 7),("KID_PLACES",.ref 180),("KS_ROW",.int 3),("KindTable",.ref 91),("PRIM_END",.int 16),("R_ARRAY",.int 4),("R_CLASS",.int 2),("R_MVAR",.int 7),("R_PRIM",.int 1),("R_RAW",.int 11),("R_VALUE",.int 3),("R_VAR",.int 6),("SL_CONST",.int 1),("SL_DEFAULT",.int 2),("SL_NULL",.int 4),("SL_TYPE",.int 3),("STMT_KIDS",.ref 251),("S_AWAIT",.int 95),("S_BLOCK",.int 3),("S_BREAK",.int 10),("S_CONTINUE",.int 11),("S_CUT",.int 93),("S_DO",.int 6),("S_EMPTY",.int 18),("S_EXPR",.int 1),("S_FOR",.int 7),("S_FOREACH",.int 8),("S_HOLD",.int 94),("S_IF",.int 4),("S_LOCAL",.int 2),("S_RETURN",.int 12),("S_SWITCH",.int 9),("S_THROW",.int 13),("S_TRY",.int 14),("S_USING",.int 15),("S_WHILE",.int 5),("S_YIELD",.int 16),("Splitter",.ref 347),("TID_PRIM",.ref 60),("TRUE_TEST",.ref 323),("X_AND",.int 15),("X_ASSIGN",.int 22),("X_AWAIT",.int 30),("X_BIN",.int 14),("X_CALL",.int 8),("X_COALESCE",.int 18),("X_COMPOUND",.int 23),("X_CONCAT",.int 26),("X_COND",.int 17),("X_CONST",.int 1),("X_HOLE",.int 32),("X_LAMBDA",.int 24),("X_LOCAL",.int 2),("X_OR",.int 16),("X_PROP",.int 34),("X_REF",.int 33),("X_SEQ",.int 31),("X_SFIELD",.int 5),("X_SLOT",.int 91),("X_TAKES",.int 96),("X_THIS",.int 3),("_law_any",.ref 589),("_law_bare",.ref 807),("_law_begin",.ref 746),("_law_big",.ref 732),("_law_block",.ref 659),("_law_block_read",.ref 814),("_law_call",.ref 610),("_law_catch",.ref 856),("_law_do_alone",.ref 673),("_law_do_read",.ref 821),("_law_each",.ref 835),("_law_ended",.ref 793),("_law_eval",.ref 786),("_law_exec",.ref 870),("_law_for",.ref 680),("_law_for_read",.ref 828),("_law_foreach",.ref 687),("_law_fresh",.ref 739),("_law_grab",.ref 624),("_law_handler",.ref 720),("_law_int",.ref 631),("_law_kept",.ref 767),("_law_label",.ref 694),("_law_local",.ref 617),("_law_looped",.ref 666),("_law_note",.ref 760),("_law_number",.ref 596),("_law_other",.ref 877),("_law_pick",.ref 842),("_law_put",.ref 753),("_law_read",.ref 882),("_law_row",.ref 800),("_law_rows",.ref 652),("_law_small",.ref 645),("_law_switch",.ref 699),("_law_takes",.ref 781),("_law_test",.ref 638),("_law_try",.ref 725),("_law_try_read",.ref 863),("_law_used",.ref 849),("_law_using",.ref 713),("_law_var",.ref 603),("_law_wait",.ref 774),("_law_waits",.ref 706),("any_await",.ref 365),("asked_when",.ref 575),("bare_label",.ref 568),("check_args",.ref 137),("check_kind_row",.ref 123),("check_named",.ref 130),("fix_target",.ref 400),("has_await",.ref 358),("held_part",.ref 470),("hold_now",.ref 393),("inner_kinds",.ref 102),("int",.ty "int"),("is_value",.ref 172),("kids_of",.ref 282),("len",.bltn "len"),("list",.ty "list"),("mark_cut",.ref 372),("parts_at",.ref 275),("pick_first",.ref 561),("pre_yield",.ref 519),("range",.ty "range"),("row_length",.ref 116),("row_level",.ref 109),("row_of",.ref 379),("split",.ref 421),("split_await",.ref 428),("split_do",.ref 540),("split_for",.ref 547),("split_loop",.ref 533),("split_maybe",.ref 498),("split_parts",.ref 477),("split_plain",.ref 512),("split_row",.ref 491),("split_stmt",.ref 505),("split_switch",.ref 554),("split_try",.ref 582),("stmt_kids",.ref 315),("stop_unless",.ref 526),("sum",.bltn "sum"),("switch_kids",.ref 301),("try_kids",.ref 308),("tuple",.ty "tuple"),("with_kids",.ref 289),("with_pre",.ref 484)]
noncomputable def glook(n:Str):List Nat→Option GV
 |[]=>none
 |i::r=>match gtab[i]? with
  |some p=>if Str.ofString p.1=n then some p.2 else glook n r
  |none=>glook n r
noncomputable def mt(sc:Scope)(F:Fn):Mt:=⟨fun n=>sc.names.lookup n,F.vars.map Str.ofString,fun n=>glook n F.gl⟩
structure Resolve(h:Heap)(n:Str)(gv:GV):Prop where
 ex:∃Mg v,h.Ns mainGlobals Mg∧GVal gv v∧(Mg n=some v∨(Mg n=none∧∃Mb,h.Ns builtinsNs Mb∧Mb n=some v))
noncomputable def methTab(c:Addr)(n:Nat):Option Nat:=ifb (Nat.beq c 347&&Nat.beq n 34) (some 344) (ifb (Nat.beq c 91&&Nat.beq n 35) (some 88) none)
structure ClsOK(K:Frag)(C fi:Addr):Prop where
 ga:findIn K (.ref C) "__getattribute__"=some (some (.builtin "object.__getattribute__"))
 gt:findIn K (.ref C) "__getattr__"=some none
 sa:findIn K (.ref C) "__setattr__"=some (some (.builtin "object.__setattr__"))
 po:plainOver K C=true
 hd:hasDictIn K C=true
 at':∀n,n < 36→n≠34→n≠35→findIn K (.ref C) (kn n)=some none∧takerIn K C (kn n)=some none
 mks:makesIn K C=true
 keep:keepIn K (.ref C)=true
 ini:findIn K (.ref C) "__init__"=some (some (.ref fi))
 inif:typeIn K (.ref fi)=some (.type "function")
 meth:∀n f,methTab C n=some f→findIn K (.ref C) (kn n)=some (some (.ref f))∧typeIn K (.ref f)=some (.type "function")∧keepIn K (.ref f)=true
noncomputable def one1(i s:Int):V:=.tup [.int i,.int s]
noncomputable def placeTab:Nat→List (Int × V)
  |0=>[(4,.tup [one1 2 1]),(6,.tup [one1 2 1,one1 3 1]),(7,.tup [one1 2 1]),(8,.tup [one1 2 2,one1 4 3]),(9,.tup [one1 3 3]),(10,.tup [one1 2 1]),(11,.tup [one1 2 3]),(13,.tup [one1 3 1]),
    (14,.tup [one1 3 1,one1 4 1]),(15,.tup [one1 2 1,one1 3 1]),(16,.tup [one1 2 1,one1 3 1]),(17,.tup [one1 2 1,one1 3 1,one1 4 1]),(18,.tup [one1 2 1,one1 3 1]),(19,.tup [one1 2 1]),(20,.tup [one1 2 1]),(21,.tup [one1 2 1]),
    (22,.tup [one1 2 1,one1 3 1]),(23,.tup [one1 2 1,one1 3 1]),(25,.tup [one1 2 2]),(26,.tup [one1 2 3]),(27,.tup [one1 3 1,one1 4 1]),(28,.tup [one1 3 1]),(30,.tup [one1 2 1]),(31,.tup [one1 2 3,one1 3 1]),(33,.tup [one1 2 1]),
    (34,.tup [one1 2 2,one1 5 3]),(35,.tup [one1 3 3]),(36,.tup [one1 2 2])]
  |1=>[(3,.tup [one1 1 3]),(4,.tup [one1 2 1,one1 3 2]),(5,.tup [one1 2 1]),(6,.tup [one1 1 1]),(7,.tup [one1 1 3,one1 4 1,one1 3 3]),(8,.tup [one1 3 1]),(15,.tup [one1 4 1])]
  |_=>[(20,.int 0),(9,.int 1),(10,.int 2),(11,.int 3),(12,.int 4),(13,.int 5),(14,.int 6),(15,.int 7),(16,.int 8),(17,.int 9),(18,.int 10),(19,.int 11),(1,.int 12),(4,.int 13)]
structure BaseOK(X:Cx):Prop where
 cls:∃K:Frag,K.In X.base∧ClsOK K 91 74∧ClsOK K 347 337
 sys:∃o,X.base.get? sysModules=some o
 nolim:X.base.NoLimit
 glob:∀p∈gtab,Resolve X.base (Str.ofString p.1) p.2
 places:∀t,placeAddr t≠sysModules∧∃ps,X.base.DictOf (intKind pw X.w) (placeAddr t) ps∧PReps ⟨X.base.get?,[]⟩ ps (placeTab t)
 tt:VRep ⟨X.base.get?,[]⟩ (.ref 323) (.tup [.int 1,.int 1,.int 1])
noncomputable def Fn.pnames(F:Fn):List Str:=ifb F.lends (((F.vars.drop 1).take (F.np - 1)).map Str.ofString++(F.vars.take 1).map Str.ofString) ((F.vars.take F.np).map Str.ofString)
structure FObj(X:Cx)(f:Nat)(F:Fn)(o:Obj)(fd:FuncData)(body:List Stmt):Prop where
 ob:X.base.get? f=some o
 da:o.data=.func fd
 bo:fd.body=.stmts body
 cr:X.base.CodeRec fd.code fd.qualname
 cl:fd.closure=[]
 co:fd.scope.isCoroutine=false
 ge:fd.scope.isGenerator=false
 ki:fd.scope.kind=.function
 gl:fd.globals=mainGlobals
 bl:fd.builtins=builtinsNs
 ok:okSs (mt fd.scope F) F.body body=true
 bi:∀vals:List Value,vals.length=F.np→bindArgs fd ⟨vals,[]⟩=pure (F.pnames.zip vals)
 pn:∀n,n∈F.pnames→fd.scope.names.lookup n=some .local∨(fd.scope.names.lookup n=some .cell∧∀k,((cellsFrom k fd.scope.names []).lookup n).isSome=true)
structure FnOK(X:Cx)(f:Nat)(F:Fn):Prop where
 vlen:F.np≤F.vars.length
 nodup:(F.vars.map Str.ofString).Nodup
 pnd:F.pnames.Nodup
 plen:F.pnames.length=F.np
 dbg:∀n,n∈F.vars.map Str.ofString→(n==("__debug__":Str))=false∧(n==("__classdict__":Str))=false
 obj:∃o fd body,FObj X f F o fd body
structure Wd where
 X:Cx
 B:BaseOK X
 F:∀f F,code f=some F→FnOK X f F
noncomputable def GOK(X:Cx)(c:Mt):Prop:=∀n gv,c.G n=some gv→Resolve X.base n gv
theorem glook_mem{n:Str}{gv:GV}:∀{l:List Nat},glook n l=some gv→∃p∈gtab,Str.ofString p.1=n∧p.2=gv:=by
 intro l
 induction l with
 |nil=>exact fun h=>non h
 |cons i r ih=>
  intro h
  unfold glook at h
  cases hi:gtab[i]? with
  |none=>rw[hi]at h;exact ih h
  |some p=>
   rw[hi]at h
   by_cases e:Str.ofString p.1=n
   ·exact⟨p,Qz hi,e,Ql ((if_pos e).symm.trans h)⟩
   ·exact ih ((if_neg e).symm.trans h)
theorem GOK.mt{X:Cx}(B:BaseOK X)(sc:Scope)(F:Fn):GOK X (mt sc F):=fun n gv h=>by
 obtain⟨p,h1,h2,h3⟩:=glook_mem (show glook n F.gl=some gv from h)
 exact h2▸h3▸B.glob p h1
noncomputable def Priv(env:Env)(a:Addr):Prop:=a=env.locals∨∃n,env.cells.lookup n=some a
structure EnvOK(vars:List Str)(env:Env):Prop where
 kind:env.scope.kind=.function
 glob:env.globals=mainGlobals
 blt:env.builtins=builtinsNs
 nodup:vars.Nodup
 cloc:∀n c,env.cells.lookup n=some c→c≠env.locals
 capt:∀n n' c,env.cells.lookup n=some c→env.cells.lookup n'=some c→n=n'
 nodbg:∀n,n∈vars→(n==("__debug__":Str))=false∧(n==("__classdict__":Str))=false
structure Fc(X:Wd)(d:Nat) where
 c:Mt
 env:Env
 A:Around
 G:GOK X.X c
 K:c.K=env.kindOf
 hd:A.handled=none
 dep:A.depth+1+2*d≤900
 uni:A.units+30*d+220≤cLine
 ok:EnvOK c.vs env
structure St where
 s:Shared
 g:Gh
 α:Al
 m:Str→Option Value
inductive SlotIs(env:Env)(t:St)(x:Str)(v:Value):Prop
 |loc:env.kindOf x=some .local→t.m x=some v→SlotIs env t x v
 |cell (c):env.kindOf x=some .cell∨env.kindOf x=some .free→env.cells.lookup x=some c→t.s.heap.IsCell c (some v)→SlotIs env t x v
inductive LvRep(t:St)(i:Nat)(v:Value):Lv→Prop
 |v {x}:VRep t.g v x→LvRep t i v (.v x)
 |o {xs} (a):v=.ref a→t.α i=some a→PList t.g t.s.heap a xs→LvRep t i v (.o xs)
structure Free(g:Gh)(a:Addr):Prop where
 i:a∉g.ι
 f:g.φ a=none
structure FInv{X:Wd}{d:Nat}(Γ:Fc X d)(ρ:Rho)(σ:Sg)(t:St):Prop where
 h:HInv X.X t.g σ t.s
 ns:t.s.heap.Ns Γ.env.locals t.m
 sl:∀i l,ρ.get i=some l→∃n v,Γ.c.vs[i]?=some n∧SlotIs Γ.env t n v∧LvRep t i v l
 ow:∀i a,t.α i=some a→(∃xs,ρ.get i=some (.o xs))∧Free t.g a∧Live t.s.heap a
 owi:∀i j a,t.α i=some a→t.α j=some a→i=j
 pr:∀a,Priv Γ.env a→Free t.g a∧(∀i,t.α i≠some a)∧Live t.s.heap a
noncomputable abbrev Step{X:Wd}{d:Nat}(Γ:Fc X d)(t t':St):Prop:=FStep (·=Γ.env.locals) t.g t.α t.s.heap t'.g t'.α t'.s.heap
noncomputable abbrev HStep(g:Gh)(h:Heap)(g':Gh)(h':Heap):Prop:=FStep NoP g Al.none h g' Al.none h'
noncomputable abbrev NoE:Value→Shared→Prop:=fun _ _=>False
theorem SlotIs.mono{env:Env}{t t':St}{x:Str}{v:Value}(hm:t'.m x=t.m x)(hk:∀a,Priv env a→Keep t.s.heap t'.s.heap a)(h:SlotIs env t x v):SlotIs env t' x v:=by
 induction h with
 |loc h1 h2=>exact .loc h1 (hm.trans h2)
 |cell c h1 h2 h3=>exact .cell c h1 h2 (IsCell_keep (hk c (.inr ⟨x,h2⟩)) h3)
section
variable {X:Wd}{d:Nat}{Γ:Fc X d}{ρ:Rho}{σ σ':Sg}{t t':St}
theorem FInv.priv(x:FInv Γ ρ σ t){a:Addr}(h:Priv Γ.env a):Free t.g a:=(x.pr a h).1
theorem FStep.free{P:Addr→Prop}{g g':Gh}{α α':Al}{h h':Heap}{a:Addr}(st:FStep P g α h g' α' h')(hf:Free g a)(hl:Live h a)(ho:∀i,α i≠some a):Free g' a:=by
 refine⟨fun q=>(st.newi a q).elim hf.i fun q=>dead_lv q hl,?_⟩
 cases hc:g'.φ a with
 |none=>rfl
 |some o=>exact((st.newf a o hc).elim (fun q=>nomatch hf.f.symm.trans q) fun q=>q.elim (fun⟨j,q⟩=>ho j q) fun q=>dead_lv q hl).elim
theorem FInv.move(x:FInv Γ ρ σ t)(hi:HInv X.X t'.g σ' t'.s)(hα:t'.α=t.α)(hm:t'.m=t.m)(le:t.g.Le t'.g)(hk:∀a,Priv Γ.env a∨(∃i,t.α i=some a)→Keep t.s.heap t'.s.heap a)(hf:∀a,Priv Γ.env a∨(∃i,t.α i=some a)→Free t.g a→Live t.s.heap a→Free t'.g a):FInv Γ ρ σ' t':=by
 have kp:=fun a h=>hk a (.inl h)
 refine⟨hi,hm▸Ns_keep (kp _ (.inl rfl)) x.ns,fun i l e=>?_,fun i a e=>?_,fun i j a=>hα▸x.owi i j a,fun a h=>?_⟩
 ·obtain⟨n,v,h1,h2,h3⟩:=x.sl i l e
  refine⟨n,v,h1,h2.mono (congrFun hm n) kp,?_⟩
  induction h3 with
  |v h=>exact .v (h.mono le)
  |o a e1 e2 h=>exact .o a e1 (hα▸e2) (h.mono le (hk a (.inr ⟨i,e2⟩)))
 ·rw[hα]at e
  obtain⟨h1,h2,h3⟩:=x.ow i a e
  obtain⟨o,ho⟩:=h3
  exact⟨h1,hf a (.inr ⟨i,e⟩) h2 ⟨o,ho⟩,o,hk a (.inr ⟨i,e⟩) o ho⟩
 ·obtain⟨h1,h2,h3⟩:=x.pr a h
  obtain⟨o,ho⟩:=h3
  exact⟨hf a (.inl h) h1 ⟨o,ho⟩,hα▸h2,o,kp a h o ho⟩
theorem FInv.lift(x:FInv Γ ρ σ t){g':Gh}{s':Shared}(hi:HInv X.X g' σ' s')(st:HStep t.g t.s.heap g' s'.heap):FInv Γ ρ σ' ⟨s',g',t.α,t.m⟩:=
 x.move hi rfl rfl st.le (fun a h=>st.kept a (h.elim (fun h=>(x.priv h).i) fun⟨i,h⟩=>(x.ow i a h).2.1.i) (fun _ e=>non e) fun e=>e) fun _ _ h l=>st.free h l fun _ e=>non e
theorem FInv.tok(x:FInv Γ ρ σ t)(k:Tok):FInv Γ ρ σ ⟨{t.s with toks:=k},t.g,t.α,t.m⟩:=x.lift (x.h.tok k) (.refl ..)
theorem FInv.push(x:FInv Γ ρ σ t)(o:Obj):FInv Γ ρ σ ⟨{t.s with heap:=t.s.heap.push o},t.g,t.α,t.m⟩:=x.lift (x.h.grown (t:=t.s.toks) fun _ _ e=>QD _ e) (.grown fun _ _ e=>QD _ e)
end
inductive PE{X:Wd}{d:Nat}(Γ:Fc X d)(t:St)(r:V × Rho × Sg):Value→Shared→Prop
 |mk {u}(t':St):FInv Γ r.2.1 r.2.2 t'→t'.m=t.m→VRep t'.g u r.1→Step Γ t t'→PE Γ t r u t'.s
inductive PL{X:Wd}{d:Nat}(Γ:Fc X d)(t:St)(r:List V × Rho × Sg):List Value→Shared→Prop
 |mk {us}(t':St):FInv Γ r.2.1 r.2.2 t'→t'.m=t.m→VReps t'.g us r.1→Step Γ t t'→PL Γ t r us t'.s
inductive PT{X:Wd}{d:Nat}(Γ:Fc X d)(t:St)(r:Bool × Rho × Sg):Bool→Shared→Prop
 |mk (t':St):FInv Γ r.2.1 r.2.2 t'→t'.m=t.m→Step Γ t t'→PT Γ t r r.1 t'.s
inductive FlRep(g:Gh):Flow→Fl→Prop where
 |next:FlRep g .next .next
 |brk:FlRep g .brk .brk
 |cont:FlRep g .cont .cont
 |ret {u x}:VRep g u x→FlRep g (.ret u) (.ret x)
inductive PS{X:Wd}{d:Nat}(Γ:Fc X d)(t:St)(r:Fl × Rho × Sg):Flow→Shared→Prop
 |mk {f}(t':St):FInv Γ r.2.1 r.2.2 t'→FlRep t'.g f r.1→Step Γ t t'→PS Γ t r f t'.s
inductive PH(X:Cx)(g:Gh)(h:Heap)(r:V × Sg):Value→Shared→Prop
 |mk {u s'}(g':Gh):HInv X g' r.2 s'→VRep g' u r.1→HStep g h g' s'.heap→PH X g h r u s'
inductive PU(X:Cx)(g:Gh)(h:Heap)(σ:Sg):Shared→Prop
 |mk {s'}(g':Gh):HInv X g' σ s'→HStep g h g' s'.heap→PU X g h σ s'
noncomputable abbrev Wp{α:Type}{X:Wd}{d:Nat}(Γ:Fc X d)(m:Sem α)(Q:α→Shared→Prop)(s:Shared):Prop:=wpAny (model pw X.X.w) Γ.A m Q NoE s
noncomputable def OkE(X:Wd)(d:Nat)(e:E)(ρ:Rho)(σ:Sg)(r:V × Rho × Sg):Prop:=∀(Γ:Fc X d) x t,okE Γ.c e x=true→FInv Γ ρ σ t→Wp Γ (eval x Γ.env) (PE Γ t r) t.s
noncomputable def OkT(X:Wd)(d:Nat)(e:E)(ρ:Rho)(σ:Sg)(r:Bool × Rho × Sg):Prop:=∀(Γ:Fc X d) x t,okE Γ.c e x=true→FInv Γ ρ σ t→Wp Γ (isTrue x Γ.env (eval x Γ.env)) (PT Γ t r) t.s
noncomputable def Es.len:Es→Nat
 | .nil=>0
 | .cons _ es=>es.len+1
structure OkL(X:Wd)(d:Nat)(es:Es)(ρ:Rho)(σ:Sg)(r:List V × Rho × Sg):Prop where
 run:∀(Γ:Fc X d) xs p t,okEs Γ.c es xs=true→FInv Γ ρ σ t→Wp Γ (spliced (backTo p (starEach xs Γ.env))) (PL Γ t r) t.s
 len:r.1.length=es.len
noncomputable def OkS(X:Wd)(d:Nat)(s:S)(ρ:Rho)(σ:Sg)(r:Fl × Rho × Sg):Prop:=∀(Γ:Fc X d) x t,okS Γ.c s x=true→FInv Γ ρ σ t→Wp Γ (exec x Γ.env) (PS Γ t r) t.s
noncomputable def OkB(X:Wd)(d:Nat)(ss:Ss)(ρ:Rho)(σ:Sg)(r:Fl × Rho × Sg):Prop:=∀(Γ:Fc X d) xs t,okSs Γ.c ss xs=true→FInv Γ ρ σ t→Wp Γ (execs xs Γ.env) (PS Γ t r) t.s
section
variable {X:Wd}{d d':Nat}{Γ:Fc X d}{ρ:Rho}{σ:Sg}{t t₁:St}
theorem wpm{α:Type}{m:Sem α}{Q Q':α→Shared→Prop}{s:Shared}(h:Wp Γ m Q s)(k:∀a s,Q a s→Q' a s):Wp Γ m Q' s:=QY h k fun _ _ q=>q
theorem OkE.go{e:E}{r:V × Rho × Sg}(h:OkE X d e ρ σ r){x:Expr}(hx:okE Γ.c e x=true)(I:FInv Γ ρ σ t){Q:Value→Shared→Prop}(k:∀u t',FInv Γ r.2.1 r.2.2 t'→t'.m=t.m→VRep t'.g u r.1→Step Γ t t'→Q u t'.s):Wp Γ (eval x Γ.env) Q t.s:=
 wpm (h Γ x t hx I) fun u _ q=>PE.rec (motive:=fun s _=>Q u s) (fun t' I m R st=>k _ t' I m R st) q
theorem OkT.go{e:E}{r:Bool × Rho × Sg}(h:OkT X d e ρ σ r){x:Expr}(hx:okE Γ.c e x=true)(I:FInv Γ ρ σ t){Q:Bool→Shared→Prop}(k:∀t',FInv Γ r.2.1 r.2.2 t'→t'.m=t.m→Step Γ t t'→Q r.1 t'.s):Wp Γ (isTrue x Γ.env (eval x Γ.env)) Q t.s:=
 wpm (h Γ x t hx I) fun u _ q=>PT.rec (motive:=fun u s _=>Q u s) (fun t' I m st=>k t' I m st) q
theorem OkL.go{es:Es}{r:List V × Rho × Sg}(h:OkL X d es ρ σ r){xs:List Expr}{p:Pos}(hx:okEs Γ.c es xs=true)(I:FInv Γ ρ σ t){Q:List Value→Shared→Prop}(k:∀us t',FInv Γ r.2.1 r.2.2 t'→t'.m=t.m→VReps t'.g us r.1→Step Γ t t'→Q us t'.s):Wp Γ (spliced (backTo p (starEach xs Γ.env))) Q t.s:=
 wpm (h.run Γ xs p t hx I) fun u _ q=>PL.rec (motive:=fun s _=>Q u s) (fun t' I m R st=>k _ t' I m R st) q
theorem OkB.go{ss:Ss}{r:Fl × Rho × Sg}(h:OkB X d ss ρ σ r){xs:List Stmt}(hx:okSs Γ.c ss xs=true)(I:FInv Γ ρ σ t){Q:Flow→Shared→Prop}(k:∀f t',FInv Γ r.2.1 r.2.2 t'→FlRep t'.g f r.1→Step Γ t t'→Q f t'.s):Wp Γ (execs xs Γ.env) Q t.s:=
 wpm (h Γ xs t hx I) fun u _ q=>PS.rec (motive:=fun s _=>Q u s) (fun t' I R st=>k _ t' I R st) q
theorem PE.here{u:Value}{x:V}(I:FInv Γ ρ σ t)(r:VRep t.g u x):PE Γ t (x,ρ,σ) u t.s:=.mk t I rfl r (.refl ..)
theorem PE.tok{u:Value}{x:V}(k:Tok)(I:FInv Γ ρ σ t)(r:VRep t.g u x):PE Γ t (x,ρ,σ) u {t.s with toks:=k}:=.mk ⟨{t.s with toks:=k},t.g,t.α,t.m⟩ (I.tok k) rfl r (.refl ..)
theorem PE.post{m:Sem Value}{x:V}{σ':Sg}(I:FInv Γ ρ σ t₁)(hm:t₁.m=t.m)(st:Step Γ t t₁)(h:Wp Γ m (PH X.X t₁.g t₁.s.heap (x,σ')) t₁.s):Wp Γ m (PE Γ t (x,ρ,σ')) t₁.s:=
 wpm h fun u s' q=>PH.rec (motive:=fun _=>PE Γ t (x,ρ,σ') u s') (fun g' J r st'=>.mk ⟨s',g',t₁.α,t₁.m⟩ (I.lift J st') hm r (st.trans st'.up)) q
theorem PS.next(I:FInv Γ ρ σ t₁)(st:Step Γ t t₁):PS Γ t (.next,ρ,σ) .next t₁.s:=.mk t₁ I .next st
theorem PS.post{α:Type}{m:Sem α}{σ':Sg}{Q:α→Shared→Prop}(I:FInv Γ ρ σ t₁)(st:Step Γ t t₁)(h:Wp Γ m (fun _=>PU X.X t₁.g t₁.s.heap σ') t₁.s)(k:∀a s,PS Γ t (.next,ρ,σ') .next s→Q a s):Wp Γ m Q t₁.s:=
 wpm h fun u s' q=>k u s' (PU.rec (motive:=fun _=>PS Γ t (.next,ρ,σ') .next s') (fun g' J st'=>PS.next (t₁:=⟨s',g',t₁.α,t₁.m⟩) (I.lift J st') (st.trans st'.up)) q)
end
noncomputable def lookA{K:Type} [DecidableEq K]:List (K × V)→K→Option V:=fun l k=>List.rec none (fun p _ ih=>ite (p.1=k) (some p.2) ih) l
inductive SeqR(σ:Sg):V→Bool→List V→Prop
 |tup (xs):SeqR σ (.tup xs) true xs
 |fl (xs):SeqR σ (.flist xs) false xs
 |ls {r xs}:σ[r]?=some (.list xs)→SeqR σ (.ref r) false xs
noncomputable def seqL(xs:List V)(j:Nat):Option V:=@Bool.rec (fun _=>Option V) none xs.getLast? (Nat.beq j 0)
inductive SubR(σ:Sg):V→V→V→Prop
 |nth {v b xs j x}:SeqR σ v b xs→xs[j]?=some x→SubR σ v (.int (.ofNat j)) x
 |last {v xs j x}:SeqR σ v false xs→seqL xs j=some x→SubR σ v (.int (.negSucc j)) x
 |ikey {r kvs k x}:σ[r]?=some (.idict kvs)→lookA kvs k=some x→SubR σ (.ref r) (.int k) x
 |skey {r kvs k x}:σ[r]?=some (.sdict kvs)→lookA kvs k=some x→SubR σ (.ref r) (.str k) x
noncomputable def mulOk:Int→Bool
 | .ofNat j=>Nat.blt j 1000000000
 | .negSucc _=>false
noncomputable def divOk:Int→Bool
 | .ofNat j=>Nat.blt 0 j&&Nat.blt j 1000000000
 | .negSucc _=>false
inductive BinR:Bop→V→V→V→Prop
 |add (a b):BinR .add (.int a) (.int b) (.int (a+b))
 |sub (a b):BinR .sub (.int a) (.int b) (.int (a - b))
 |mul (a b):mulOk b=true→BinR .mul (.int a) (.int b) (.int (a*b))
 |fdiv (a b):divOk b=true→BinR .fdiv (.int a) (.int b) (.int (a / b))
 |mod (a b):divOk b=true→BinR .mod (.int a) (.int b) (.int (a % b))
 |tups (xs ys):xs.length+ys.length≤LIM→BinR .add (.tup xs) (.tup ys) (.tup (xs++ys))
 |fls (xs ys):xs.length+ys.length≤LIM→BinR .add (.flist xs) (.flist ys) (.flist (xs++ys))
inductive TruR:V→Bool→Prop
 |none:TruR .none false
 |bool (b):TruR (.bool b) b
 |int (i):TruR (.int i) (i != 0)
 |tup (xs):TruR (.tup xs) (!xs.isEmpty)
 |fl (xs):TruR (.flist xs) (!xs.isEmpty)
noncomputable def sumV:List V→Option Int
 |[]=>some 0
 | .int i::r=>(sumV r).map (i+·)
 |_=>none
inductive BltR(σ:Sg):Blt→V→V→Prop
 |len {v b xs}:SeqR σ v b xs→BltR σ .len v (.int xs.length)
 |tuple {v b xs}:SeqR σ v b xs→BltR σ .tuple v (.tup xs)
 |int (b):BltR σ .int (.bool b) (.int (@Bool.rec (fun _=>Int) 0 1 b))
 |sum {xs t}:sumV xs=some t→BltR σ .sum (.flist xs) (.int t)
section
variable {X:Cx}{g:Gh}{σ:Sg}{s:Shared}{A:Around}{d:Nat}{Y:Wd}{Γ:Fc Y d}
theorem PH.here{u:Value}{x:V}(I:HInv X g σ s)(r:VRep g u x):PH X g s.heap (x,σ) u s:=⟨g,I,r,.refl ..⟩
theorem PH.tok{u:Value}{x:V}(t:Tok)(I:HInv X g σ s)(r:VRep g u x):PH X g s.heap (x,σ) u {s with toks:=t}:=⟨g,I.tok t,r,.refl ..⟩
theorem PH.fz{x:V}{o:Obj}{h₁:Heap}{t:Tok}(I:HInv X g σ s)(hk:∀a,Keep s.heap h₁ a)(hf:o.isFreed=false)(r:g.φ h₁.objs.size=none→VRep (g.fz h₁.objs.size o) (.ref h₁.objs.size) x):
  PH X g s.heap (x,σ) (.ref h₁.objs.size) {s with heap:=h₁.push o,toks:=t}:=by
 have hk':∀a,Keep s.heap (h₁.push o) a:=fun a o e=>QD _ (hk a o e)
 have hn:s.heap.get? h₁.objs.size=none:=by
  cases hc:s.heap.get? h₁.objs.size with
  |none=>rfl
  |some o=>exact absurd (Heap.lt_size (hk _ _ hc)) (Nat.lt_irrefl _)
 obtain⟨f1,f2⟩:=I.fresh hn
 exact⟨_,(I.grown hk').fz f1 f2 (QF _ hf),r f1,.fz f1 hn hk'⟩
theorem PH.al{mo:MObj}{o:Obj}{t:Tok}(I:HInv X g σ s)(hf:o.isFreed=false)(hm:MRep X (g.al s.heap.objs.size) (s.heap.push o) s.heap.objs.size mo):
  PH X g s.heap (.ref σ.length,σ++[mo]) (.ref s.heap.objs.size) {s with heap:=s.heap.push o,toks:=t}:=by
 have hk:∀a,Keep s.heap (s.heap.push o) a:=fun _ _ e=>QD _ e
 obtain⟨f1,f2⟩:=I.fresh (get?_none_size _)
 exact⟨_,(I.grown hk).al f1 f2 ⟨o,QF _ hf⟩ hm,.ref (I.len▸g.al_self _),.al (get?_none_size _) hk⟩
theorem mk_tup{vs:List Value}{xs:List V}{a:Addr}{n:Nat}(hf:g.φ a=none)(r:VReps g vs xs)(l:xs.length≤LIM):VRep (g.fz a {cls:=.type "tuple",data:=.seq vs.toArray n}) (.ref a) (.tup xs):=.tup (Gh.fz_self ..) rfl rfl (r.mono (.fz hf)) l
theorem mk_list{vs:List Value}{xs:List V}{a:Addr}{n:Nat}(hf:g.φ a=none)(r:VReps g vs xs)(l:xs.length≤LIM):VRep (g.fz a {cls:=.type "list",data:=.seq vs.toArray n}) (.ref a) (.flist xs):=.flist (Gh.fz_self ..) rfl rfl (r.mono (.fz hf)) l
inductive SeqI(g:Gh)(h:Heap)(xs:List V):Bool→Value→Prop
 |tup (a vs):IsTup h a (List.toArray vs)→VReps g vs xs→xs.length≤LIM→SeqI g h xs true (.ref a)
 |list (a vs):h.IsList a (List.toArray vs)→VReps g vs xs→xs.length≤LIM→SeqI g h xs false (.ref a)
theorem SeqR.inv{v:V}{b:Bool}{xs:List V}{u:Value}(h:SeqR σ v b xs)(I:HInv X g σ s)(r:VRep g u v):SeqI g s.heap xs b u:=by
 have r:=r.inv
 induction h with
 |tup xs=>
  obtain⟨a,o,vs,n,e,h1,h2,h3,h4,h5⟩:=r
  exact e▸.tup _ _ ⟨_,I.frz _ _ h1,h2,_,h3⟩ h4 h5
 |fl xs=>
  obtain⟨a,o,vs,n,e,h1,h2,h3,h4,h5⟩:=r
  exact e▸.list _ _ ⟨_,I.frz _ _ h1,h2,_,h3⟩ h4 h5
 |ls q=>
  obtain⟨a,e,h1⟩:=r
  obtain⟨⟨vs,h2,h3⟩,l⟩:PList g s.heap a _:=I.ob _ _ _ q h1
  exact e▸.list _ _ h2.isList h3 l
inductive TuI(g:Gh)(h:Heap)(xs:List V)(u:Value):Prop
 |mk (a vs):u=.ref a→IsTup h a (List.toArray vs)→VReps g vs xs→xs.length≤LIM→TuI g h xs u
inductive LiI(g:Gh)(h:Heap)(xs:List V)(u:Value):Prop
 |mk (a vs):u=.ref a→h.IsList a (List.toArray vs)→VReps g vs xs→xs.length≤LIM→LiI g h xs u
theorem VRep.tui{xs:List V}{u:Value}(r:VRep g u (.tup xs))(I:HInv X g σ s):TuI g s.heap xs u:=by
 obtain⟨a,o,vs,n,e,h1,h2,h3,h4,h5⟩:=r.inv
 exact .mk a vs e ⟨_,I.frz _ _ h1,h2,_,h3⟩ h4 h5
theorem VRep.lii{xs:List V}{u:Value}(r:VRep g u (.flist xs))(I:HInv X g σ s):LiI g s.heap xs u:=by
 obtain⟨a,o,vs,n,e,h1,h2,h3,h4,h5⟩:=r.inv
 exact .mk a vs e ⟨_,I.frz _ _ h1,h2,_,h3⟩ h4 h5
theorem lt63{j n:Nat}(h:j < n)(l:n≤LIM):Int.ofNat j < 2 ^ 63:=Int.lt_trans (Int.ofNat_lt.mpr (QE h l)) (by decide)
theorem lo63{j:Nat}:-(2 ^ 63)≤Int.ofNat j:=QH (by decide) (Int.natCast_nonneg j)
theorem VRep.obj{m:MObj}{i:Nat}{u:Value}(r:VRep g u (.ref i))(I:HInv X g σ s)(e:σ[i]?=some m):∃a,u=.ref a∧g.ι[i]?=some a∧MRep X g s.heap a m:=by
 obtain⟨a,e1,h1⟩:=r.inv
 exact⟨a,e1,h1,I.ob _ _ _ e h1⟩
theorem ga{vs:List Value}{j:Nat}{w:Value}(h:vs[j]?=some w):(List.toArray vs)[j]?=some w:=List.getElem?_toArray.trans h
theorem VRep.int_inv{u:Value}{i:Int}(r:VRep g u (.int i)):∃t,u=.int i t:=r.inv
theorem lookA_rep{K:Type} [DecidableEq K]{ps:List (K × Value)}{kvs:List (K × V)}(r:PReps g ps kvs)(k:K):(lookA kvs k=none∧valueAt ps k=none)∨∃x v,lookA kvs k=some x∧valueAt ps k=some v∧VRep g v x:=by
 induction r with
 |nil=>exact .inl ⟨rfl,rfl⟩
 | @cons p q ps kvs h _ ih=>
  obtain⟨h1,h2⟩:=h
  by_cases e:q.1=k
  ·exact .inr ⟨q.2,p.2,if_pos e,congrArg (Option.map (Prod.snd (α:=K) (β:=Value))) (List.find?_cons_of_pos (p:=fun kv:K × Value=>decide (kv.1=k)) (QZ (h1.trans e))),h2⟩
  ·rw[show lookA (q::kvs) k=lookA kvs k from if_neg e,show valueAt (p::ps) k=valueAt ps k from congrArg (Option.map (Prod.snd (α:=K) (β:=Value))) (List.find?_cons_of_neg (p:=fun kv:K × Value=>decide (kv.1=k)) (by rw[h1];simpa using e))]
   exact ih
theorem lookA_some{K:Type} [DecidableEq K]{ps:List (K × Value)}{kvs:List (K × V)}(r:PReps g ps kvs){k:K}{x:V}(e:lookA kvs k=some x):∃v,valueAt ps k=some v∧VRep g v x:=by
 rcases lookA_rep r k with⟨q,_⟩|⟨y,v,h1,h2,h3⟩
 ·exact nomatch q.symm.trans e
 ·exact⟨v,h2,Ql (h1.symm.trans e)▸h3⟩
theorem valueAt_str{ps:List (Nat × Value)}{kvs:List (Nat × V)}(r:PReps g ps kvs)(hb:∀p∈kvs,p.1 < 36){k:Nat}(hk:k < 36):valueAt (strKeys ps) (kn k)=valueAt ps k:=by
 induction r with
 |nil=>rfl
 | @cons p q ps kvs h _ ih=>
  have ih:=ih fun p hp=>hb p (Qg _ hp)
  have hq:p.1 < 36:=h.1▸hb q Qe
  unfold valueAt strKeys at *
  rw[List.map_cons,List.find?_cons,List.find?_cons]
  by_cases e:p.1=k
  ·rw[QZ e,QZ (congrArg kn e)];rfl
  ·rw[decide_eq_false e,decide_eq_false fun q=>e (kn_inj hq hk q)];exact ih
theorem op_sub{ve se:Expr}{va vb:Value}{a b x:V}(hs:∀o i,subscripted se false o i=operate [o,i] (getItem o i))(I:HInv X g σ s)(ra:VRep g va a)(rb:VRep g vb b)(e:SubR σ a b x):
  wpAny (model pw X.w) A (subscriptTail ve se va vb) (PH X g s.heap (x,σ)) NoE s:=by
 induction e with
 | @nth v b xs j x h e=>
  obtain⟨t,rfl⟩:=rb.int_inv
  have hj:=(Qc.mp e).1
  cases h.inv I ra with
  |tup a vs ht hr hl=>
   obtain⟨w,hv,rw⟩:=hr.get e
   refine tail_any ht.typeIs slot_tuple_getitem.lookup (getItem_tuple ht (j:=j) lo63 (lt63 hj hl) ?_ (ga hv) (PH.here I rw)) (hs _ _)
   unfold seqIndex?
   rw[Qo,hr.length,if_neg (show ¬Int.ofNat j < 0 from Int.not_lt.mpr (Int.natCast_nonneg j))]
   exact if_pos (Qq.mpr ⟨QZ (Int.natCast_nonneg j),QZ (Int.ofNat_lt.mpr hj)⟩)
  |list a vs ht hr hl=>
   obtain⟨w,hv,rw⟩:=hr.get e
   exact tail_any ht.typeIs slot_list_getitem.lookup (wpAny_getItem_list ht (Int.natCast_nonneg j) (lt63 hj hl) (ga hv) (PH.here I rw)) (hs _ _)
 | @last v xs j x h e=>
  obtain⟨t,rfl⟩:=rb.int_inv
  induction j with
  |succ j=>exact non e
  |zero=>
  cases h.inv I ra with
  |list a vs ht hr hl=>
   have e':xs.getLast?=some x:=e
   rw[List.getLast?_eq_getElem?]at e'
   obtain⟨w,hv,rw⟩:=hr.get e'
   have hj:=(Qc.mp e').1
   refine tail_any ht.typeIs slot_list_getitem.lookup (wpAny_getItem_list_neg ht (k:=Int.negSucc 0) (x:=w) (by decide) ?_ (by decide) ?_ (PH.here I rw)) (hs _ _)
   ·rw[Qo,hr.length];lia
   ·rw[Qo,hr.length,show(Int.negSucc 0+(xs.length:Int)).toNat=xs.length - 1 by lia];exact ga hv
 |ikey h e=>
  obtain⟨t,rfl⟩:=rb.int_inv
  obtain⟨a,rfl,_,ps,hp,hr⟩:=ra.obj I h
  obtain⟨w,h2,h3⟩:=lookA_some hr e
  exact tail_any hp.typeIs slot_dict_getitem.lookup (wpAny_getItem_of (knd:=intKind pw X.w) (Zb _) hp.mapOf h2 (PH.tok _ I h3)) (hs _ _)
 |skey h e=>
  obtain⟨a,rfl,_,ps,hp,hr,hb⟩:=ra.obj I h
  obtain⟨t,rfl,hn⟩:=rb.inv
  obtain⟨w,h2,h3⟩:=lookA_some hr e
  exact tail_any hp.typeIs slot_dict_getitem.lookup (wpAny_getItem_of (knd:=PySem.strKind pw X.w) (Zb _) hp.mapOf ((valueAt_str hr hb hn).trans h2) (PH.tok _ I h3)) (hs _ _)
end
inductive Pd:V→PyData→Prop where
 |none:Pd .none .none
 |bool (b):Pd (.bool b) (.bool b)
 |int (i):Pd (.int i) (.int i)
 |str (n):Pd (.str n) (.str (kn n))
 |tup {xs ds}:F2 Pd xs ds→Pd (.tup xs) (.tuple ds)
 |fl {xs ds}:F2 Pd xs ds→Pd (.flist xs) (.list ds)
inductive Pr(σ:Sg):V→PyData→Prop where
 |pd {v d}:Pd v d→Pr σ v d
 |ls {r xs ds}:σ[r]?=some (.list xs)→F2 Pd xs ds→Pr σ (.ref r) (.list ds)
inductive Pq(σ:Sg):V→PyData→Prop where
 |pr {v d}:Pr σ v d→Pq σ v d
 |tup {xs ds}:F2 (Pr σ) xs ds→Pq σ (.tup xs) (.tuple ds)
inductive EqR(σ:Sg):V→V→Bool→Prop where
 |int (i j):EqR σ (.int i) (.int j) (i==j)
 |data {a b x y}:Pq σ a x→Pq σ b y→SeqAt.shaped x=true→SeqAt.shaped y=true→EqR σ a b (PyData.eqv x y)
noncomputable def isNv(v:V):Bool:=@V.casesOn (fun _=>Bool) v true (fun _=>false) (fun _=>false) (fun _=>false) (fun _=>false) (fun _=>false) (fun _=>false) (fun _=>false)
noncomputable def intsMem(k:Int):List V→Option Bool
 |[]=>some false
 | .int i::r=>(intsMem k r).map fun b=>i==k||b
 |_=>none
inductive IDic(σ:Sg):V→List (Int × V)→Prop where
 |i {r kvs}:σ[r]?=some (.idict kvs)→IDic σ (.ref r) kvs
 |g (t):IDic σ (.gd t) (placeTab t)
inductive CmpR(σ:Sg):Cop→V→V→Bool→Prop where
 |eq {a b t}:EqR σ a b t→CmpR σ .eq a b t
 |ne {a b t}:EqR σ a b t→CmpR σ .ne a b (!t)
 |eqn (xs):CmpR σ .eq (.flist xs) (.flist []) xs.isEmpty
 |lt (a b):CmpR σ .lt (.int a) (.int b) (decide (a < b))
 |gt (a b):CmpR σ .gt (.int a) (.int b) (decide (a > b))
 |le (a b):CmpR σ .le (.int a) (.int b) (decide (a≤b))
 |ge (a b):CmpR σ .ge (.int a) (.int b) (decide (a≥b))
 |isN (v):CmpR σ .isN v .none (isNv v)
 |isntN (v):CmpR σ .isntN v .none (!(isNv v))
 |inn {k xs t}:intsMem k xs=some t→CmpR σ .inn (.int k) (.tup xs) t
 |notin {k xs t}:intsMem k xs=some t→CmpR σ .notin (.int k) (.tup xs) (!t)
 |ink {k v kvs}:IDic σ v kvs→CmpR σ .inn (.int k) v (lookA kvs k).isSome
 |notink {k v kvs}:IDic σ v kvs→CmpR σ .notin (.int k) v (!(lookA kvs k).isSome)
inductive IDiI(X:Cx)(g:Gh)(h:Heap)(kvs:List (Int × V))(u:Value):Prop
 |mk (a ps):u=.ref a→h.DictOf (intKind pw X.w) a ps→PReps g ps kvs→(a==sysModules)=false→IDiI X g h kvs u
section
variable {X:Cx}{g:Gh}{σ:Sg}{s:Shared}{A:Around}
theorem HInv.keepsBase(I:HInv X g σ s):∀b o,X.base.get? b=some o→s.heap.get? b=some o:=fun b o e=>I.frz b o (I.base b o e)
theorem HInv.leBase(I:HInv X g σ s):Gh.Le ⟨X.base.get?,[]⟩ g:=⟨I.base,fun _ _ e=>non (show none=some _ from e)⟩
theorem mulOk_ok{a b:Int}(h:mulOk b=true):IntMulOk a b:=by
 induction b with
 |ofNat j=>exact .of_right (intBits_le_64 (by lia) (by have:=Qs.mp h;lia))
 |negSucc j=>exact nomatch h
theorem divOk_ok{b:Int}(h:divOk b=true):0 < b∧b < 1000000000:=by
 induction b with
 |ofNat j=>
  obtain⟨h1,h2⟩:=Qq.mp h
  exact⟨Int.ofNat_lt.mpr (Qs.mp h1),Int.ofNat_lt.mpr (Qs.mp h2)⟩
 |negSucc j=>exact nomatch h
theorem op_addtup{va vb:Value}{xs ys:List V}(I:HInv X g σ s)(ra:VRep g va (.tup xs))(rb:VRep g vb (.tup ys))(h:xs.length+ys.length≤LIM):
  wpAny (model pw X.w) A (binaryOp .Add va vb) (PH X g s.heap (.tup (xs++ys),σ)) NoE s:=by
 obtain⟨l,⟨cls,dd,data,sl⟩,vs,n,rfl,ho,hc,hd,hr,hl⟩:=ra.inv
 obtain⟨b,⟨cls2,dd2,data2,sl2⟩,ws,n2,rfl,ho2,hc2,hd2,hq,hl2⟩:=rb.inv
 have ho:=I.frz _ _ ho
 have ho2:=I.frz _ _ ho2
 cases hc;cases hd;cases hc2;cases hd2
 induction vs with
 |nil=>
  cases hr
  exact concat_meets ⟨_,ho,rfl⟩ ⟨_,ho2,rfl⟩ noFill_tuple_add seq_tuple_add PySem.F.slot_tuple_add PySem.F.entry_tuple_add (PySem.F.args_tuple_add_2 _ _) (tuple_addW0 l b _ _ n n2 dd dd2 sl sl2 rfl) ⟨ho,ho2,PH.here I rb⟩
 |cons v vs=>
  induction ws with
  |nil=>
   cases hq
   rw[QA]
   exact concat_meets ⟨_,ho,rfl⟩ ⟨_,ho2,rfl⟩ noFill_tuple_add seq_tuple_add PySem.F.slot_tuple_add PySem.F.entry_tuple_add (PySem.F.args_tuple_add_2 _ _) (tuple_addW1 l b _ _ n n2 dd dd2 sl sl2 (by exact QQ) rfl) ⟨ho,ho2,PH.here I ra⟩
  |cons w ws=>
   refine concat_meets ⟨_,ho,rfl⟩ ⟨_,ho2,rfl⟩ noFill_tuple_add seq_tuple_add PySem.F.slot_tuple_add PySem.F.entry_tuple_add (PySem.F.args_tuple_add_2 _ _) (tuple_addW2 l b _ _ n n2 dd dd2 sl sl2 (by exact QQ) (by exact QQ) (by
    rw[Qo,Qo,hr.length,hq.length];exact h)) ⟨ho,ho2,?_⟩
   rw[List.append_toArray]
   exact PH.fz (t:=s.toks) I (fun _ _ e=>e) rfl fun hn=>mk_tup hn (hr.append hq) (Qb▸h)
theorem op_addlist{va vb:Value}{xs ys:List V}(I:HInv X g σ s)(ra:VRep g va (.flist xs))(rb:VRep g vb (.flist ys))(h:xs.length+ys.length≤LIM):
  wpAny (model pw X.w) A (binaryOp .Add va vb) (PH X g s.heap (.flist (xs++ys),σ)) NoE s:=by
 obtain⟨l,⟨cls,dd,data,sl⟩,vs,n,rfl,ho,hc,hd,hr,hl⟩:=ra.inv
 obtain⟨b,⟨cls2,dd2,data2,sl2⟩,ws,n2,rfl,ho2,hc2,hd2,hq,hl2⟩:=rb.inv
 have ho:=I.frz _ _ ho
 have ho2:=I.frz _ _ ho2
 cases hc;cases hd;cases hc2;cases hd2
 refine concat_meets ⟨_,ho,rfl⟩ ⟨_,ho2,rfl⟩ noFill_list_add seq_list_add PySem.F.slot_list_add PySem.F.entry_list_add (PySem.F.args_list_add_2 _ _) (list_addW l b _ _ n n2 dd dd2 sl sl2 (by
  rw[Qo,Qo,hr.length,hq.length];exact h)) ⟨ho,ho2,?_⟩
 rw[List.append_toArray]
 exact PH.fz (t:=s.toks) I (fun _ _ e=>e) rfl fun hn=>mk_list hn (hr.append hq) (Qb▸h)
theorem op_bin{va vb:Value}{o:Bop}{a b x:V}(I:HInv X g σ s)(ra:VRep g va a)(rb:VRep g vb b)(e:BinR o a b x):
  wpAny (model pw X.w) A (binaryOp (bopA o) va vb) (PH X g s.heap (x,σ)) NoE s:=by
 induction e with
 |add a b=>obtain⟨t,rfl⟩:=ra.int_inv;obtain⟨u,rfl⟩:=rb.int_inv;exact add_int (PH.tok _ I (.int ..))
 |sub a b=>obtain⟨t,rfl⟩:=ra.int_inv;obtain⟨u,rfl⟩:=rb.int_inv;exact sub_int (PH.tok _ I (.int ..))
 |mul a b h=>obtain⟨t,rfl⟩:=ra.int_inv;obtain⟨u,rfl⟩:=rb.int_inv;exact PyProof.Rows.mul_int (PH.tok _ I (.int ..)) (mulOk_ok h)
 |fdiv a b h=>
  obtain⟨t,rfl⟩:=ra.int_inv;obtain⟨u,rfl⟩:=rb.int_inv
  obtain⟨h1,h2⟩:=divOk_ok h
  refine floordiv_int (Int.ne_of_gt h1) ?_ (.inl (PyProof.noPylong_small (by lia)))
  rw[Int.fdiv_eq_ediv_of_nonneg _ (Int.le_of_lt h1)]
  exact PH.tok _ I (.int ..)
 |mod a b h=>
  obtain⟨t,rfl⟩:=ra.int_inv;obtain⟨u,rfl⟩:=rb.int_inv
  obtain⟨h1,h2⟩:=divOk_ok h
  refine mod_int' (Int.ne_of_gt h1) ?_
  rw[Int.fmod_eq_emod_of_nonneg _ (Int.le_of_lt h1)]
  exact PH.tok _ I (.int ..)
 |tups xs ys h=>exact op_addtup I ra rb h
 |fls xs ys h=>exact op_addlist I ra rb h
theorem reads_pd(I:HInv X g σ s){x:V}{d:PyData}(h:Pd x d):∀u,VRep g u x→∃as,Reads s.heap u d as:=
 Pd.rec (motive_1:=fun x d _=>∀u,VRep g u x→∃as,Reads s.heap u d as) (motive_2:=fun xs ds _=>∀us,VReps g us xs→∃as,ReadsAll s.heap us ds as)
  (fun _ r=>by obtain rfl:=r.inv;exact⟨_,.none⟩) (fun b _ r=>by obtain rfl:=r.inv;exact⟨_,.bool _⟩) (fun i _ r=>by obtain⟨t,rfl⟩:=r.inv;exact⟨_,.int _ _⟩) (fun n _ r=>by obtain⟨t,rfl,_⟩:=r.inv;exact⟨_,.str _ _⟩)
  (fun _ ih _ r=>by
   obtain⟨a,o,vs,n,rfl,h1,h2,h3,h4,h5⟩:=r.inv
   obtain⟨as,r⟩:=ih _ h4
   exact⟨_,.tuple (I.frz _ _ h1) h2 h3 r⟩)
  (fun _ ih _ r=>by
   obtain⟨a,o,vs,n,rfl,h1,h2,h3,h4,h5⟩:=r.inv
   obtain⟨as,r⟩:=ih _ h4
   exact⟨_,.list (I.frz _ _ h1) h2 h3 r⟩)
  (fun _ r=>by cases r;exact⟨_,.nil⟩)
  (fun _ _ i1 i2 _ r=>by
   cases r with
   |cons r1 r2=>
    obtain⟨as,q1⟩:=i1 _ r1
    obtain⟨bs,q2⟩:=i2 _ r2
    exact⟨_,.cons q1 q2⟩) h
theorem reads_all{R:V→PyData→Prop}(k:∀x d,R x d→∀u,VRep g u x→∃as,Reads s.heap u d as){xs:List V}{ds:List PyData}(h:F2 R xs ds):∀{us:List Value},VReps g us xs→∃as,ReadsAll s.heap us ds as:=by
 induction h with
 |nil=>intro us r;cases r;exact⟨_,.nil⟩
 |cons h1 _ ih=>
  intro us r
  cases r with
  |cons r1 r2=>
  obtain⟨as,q1⟩:=k _ _ h1 _ r1
  obtain⟨bs,q2⟩:=ih r2
  exact⟨_,.cons q1 q2⟩
theorem reads_pr(I:HInv X g σ s){x:V}{d:PyData}(h:Pr σ x d)(u:Value)(r:VRep g u x):∃as,Reads s.heap u d as:=by
 induction h with
 |pd h=>exact reads_pd I h u r
 |ls e h=>
  obtain⟨a,rfl,_,⟨vs,⟨n,h1⟩,hr⟩,_⟩:=r.obj I e
  obtain⟨as,q⟩:=reads_all (fun _ _ h=>reads_pd I h) h hr
  exact⟨_,.list h1 rfl rfl q⟩
theorem reads_pq(I:HInv X g σ s){x:V}{d:PyData}{u:Value}(h:Pq σ x d)(r:VRep g u x):∃as,Reads s.heap u d as:=by
 induction h with
 |pr h=>exact reads_pr I h u r
 |tup h=>
  obtain⟨a,o,vs,n,rfl,h1,h2,h3,h4,h5⟩:=r.inv
  obtain⟨as,q⟩:=reads_all (fun _ _ h=>reads_pr I h) h h4
  exact⟨_,.tuple (I.frz _ _ h1) h2 h3 q⟩
theorem op_eq{va vb:Value}{a b:V}{t:Bool}(I:HInv X g σ s)(hu:A.units+64 < cLine)(ra:VRep g va a)(rb:VRep g vb b)(e:EqR σ a b t):
  wpAny (model pw X.w) A (compareOp .Eq va vb) (PH X g s.heap (.bool t,σ)) NoE s∧wpAny (model pw X.w) A (compareOp .NotEq va vb) (PH X g s.heap (.bool (!t),σ)) NoE s:=by
 induction e with
 |int i j=>
  obtain⟨t,rfl⟩:=ra.int_inv;obtain⟨u,rfl⟩:=rb.int_inv
  exact⟨PySem.P.eq_int (PH.here I (.bool _)),PySem.P.ne_int (PH.here I (.bool _))⟩
 |data h1 h2 h3 h4=>
  obtain⟨as,r1⟩:=reads_pq I h1 ra
  obtain⟨bs,r2⟩:=reads_pq I h2 rb
  exact⟨eq_dataH r1 r2 h3 h4 hu (PH.here I (.bool _)),ne_dataH r1 r2 h3 h4 hu (PH.here I (.bool _))⟩
noncomputable def isK(k:Int):Value→Bool
 | .int i _=>i==k
 |_=>false
theorem intsMem_any{k:Int}:∀{xs:List V}{us:List Value}{t:Bool},VReps g us xs→intsMem k xs=some t→us.any (isK k)=t∧∀y∈us,∃i u,y=.int i u:=by
 intro xs
 induction xs with
 |nil=>intro us t r e;cases r;exact⟨Ql e,fun _ h=>nomatch h⟩
 |cons x xs ih=>
  intro us t r e
  cases r with
  |cons r1 r2=>
  cases x with
  |int i=>
   obtain⟨b,e1,e2⟩:=Option.map_eq_some_iff.mp (show(intsMem k xs).map _=some _ from e)
   obtain⟨u,rfl⟩:=r1.int_inv
   obtain⟨h3,h4⟩:=ih r2 e1
   refine⟨by rw[List.any_cons,h3];exact e2,fun y hy=>?_⟩
   rcases Qt.mp hy with rfl|hy
   ·exact⟨_,_,rfl⟩
   ·exact h4 y hy
  |_=>exact non e
theorem eqAt_isK{y:Value}{k:Int}{u:Tok}(h:∃i t,y=.int i t):SeqAt.EqAt A s y (.int k u) (isK k y):=by
 obtain⟨i,t,rfl⟩:=h
 exact(MeetsSeq.EqGives.int i k t u).at A s
theorem ne_sys{i:Nat}{a:Addr}(hS:∃o,X.base.get? sysModules=some o)(I:HInv X g σ s)(h:g.ι[i]?=some a):(a==sysModules)=false:=by
 obtain⟨o,ho⟩:=hS
 refine Zd.mpr fun e=>?_
 exact nomatch (I.unf _ (Qz h)).symm.trans ((congrArg g.φ e).trans (I.base _ _ ho))
theorem lookA_isSome{ps:List (Int × Value)}{kvs:List (Int × V)}(r:PReps g ps kvs)(k:Int):(lookA kvs k).isSome=(valueAt ps k).isSome:=by
 rcases lookA_rep r k with⟨q,q'⟩|⟨y,v,h1,h2,h3⟩
 ·rw[q,q'];rfl
 ·rw[h1,h2];rfl
theorem IDic.inv(B:BaseOK X)(I:HInv X g σ s){u:Value}{v:V}{kvs:List (Int × V)}(r:VRep g u v)(h:IDic σ v kvs):IDiI X g s.heap kvs u:=by
 induction h with
 |i h=>
  obtain⟨d,e,hd,ps,hp,hr⟩:=r.obj I h
  exact⟨d,ps,e,hp,hr,ne_sys B.sys I hd⟩
 |g t=>
  obtain⟨hne,ps,hp,hr⟩:=B.places t
  exact⟨_,ps,r.inv,DictOf_keep (I.keepsBase _) hp,hr.mono I.leBase,Zd.mpr hne⟩
theorem isNone_other{u:Value}{v:V}(r:VRep g u v):(u=.none∧isNv v=true)∨(∀(Q:Value→Shared→Prop),Q (.bool false) s→wpAny (model pw X.w) A (compareOp .Is u .none) Q NoE s)∧(∀(Q:Value→Shared→Prop),Q (.bool true) s→wpAny (model pw X.w) A (compareOp .IsNot u .none) Q NoE s)∧isNv v=false:=by
 cases r with
 |none=>exact .inl ⟨rfl,rfl⟩
 |_=>exact .inr ⟨fun _ q=>wpAny_is_other rfl (fun e=>nomatch e) q,fun _ q=>wpAny_isNot_other rfl (fun e=>nomatch e) q,rfl⟩
theorem op_eqn{va vb:Value}{xs:List V}(I:HInv X g σ s)(hu:A.units+64 < cLine)(ra:VRep g va (.flist xs))(rb:VRep g vb (.flist [])):wpAny (model pw X.w) A (compareOp .Eq va vb) (PH X g s.heap (.bool xs.isEmpty,σ)) NoE s:=by
 obtain⟨l,⟨cls,dd,data,sl⟩,vs,n,rfl,ho,hc,hd,hr,_⟩:=ra.inv
 obtain⟨b,⟨cls2,dd2,data2,sl2⟩,ws,n2,rfl,ho2,hc2,hd2,hq,_⟩:=rb.inv
 have ho:=I.frz _ _ ho
 have ho2:=I.frz _ _ ho2
 cases hc;cases hd;cases hc2;cases hd2;cases hq
 induction hr with
 |nil=>exact richCompare_meets_room (op:=.Eq) ⟨_,ho,rfl⟩ ⟨_,ho2,rfl⟩ PySem.F.slot_list_eq PySem.F.entry_list_eq (PySem.F.args_list_eq_2 _ _) (SeqAt.list_eqAt l b _ _ n n2 dd dd2 sl sl2 rfl fun _=>true) ⟨ho,ho2,fun _ h=>absurd h (Nat.not_lt_zero _),show Value.bool true≠Value.notImplemented∧PH X g s.heap (.bool true,σ) (.bool true) s from⟨(fun x=>nomatch x),PH.here I (.bool _)⟩⟩ (QB (Qw _ _) hu)
 |cons=>exact richCompare_meets_room (op:=.Eq) ⟨_,ho,rfl⟩ ⟨_,ho2,rfl⟩ PySem.F.slot_list_eq PySem.F.entry_list_eq (PySem.F.args_list_eq_2 _ _) (SeqAt.list_eq_lengthsAt l b _ _ n n2 dd dd2 sl sl2 rfl) ⟨ho,ho2,show Value.bool false≠Value.notImplemented∧PH X g s.heap (.bool false,σ) (.bool false) s from⟨(fun x=>nomatch x),PH.here I (.bool _)⟩⟩ (QB (Qw _ _) hu)
theorem op_cmp{va vb:Value}{o:Cop}{a b:V}{t:Bool}(B:BaseOK X)(I:HInv X g σ s)(hu:A.units+64 < cLine)(ra:VRep g va a)(rb:VRep g vb b)(e:CmpR σ o a b t):
  wpAny (model pw X.w) A (compareOp (copA o) va vb) (PH X g s.heap (.bool t,σ)) NoE s:=by
 induction e with
 |eq e=>exact(op_eq I hu ra rb e).1
 |ne e=>exact(op_eq I hu ra rb e).2
 |eqn xs=>exact op_eqn I hu ra rb
 |lt a b=>obtain⟨t,rfl⟩:=ra.int_inv;obtain⟨u,rfl⟩:=rb.int_inv;exact PySem.P.lt_int (PH.here I (.bool _))
 |gt a b=>obtain⟨t,rfl⟩:=ra.int_inv;obtain⟨u,rfl⟩:=rb.int_inv;exact PySem.P.gt_int (PH.here I (.bool _))
 |le a b=>obtain⟨t,rfl⟩:=ra.int_inv;obtain⟨u,rfl⟩:=rb.int_inv;exact PySem.P.le_int (PH.here I (.bool _))
 |ge a b=>obtain⟨t,rfl⟩:=ra.int_inv;obtain⟨u,rfl⟩:=rb.int_inv;exact PySem.P.ge_int (PH.here I (.bool _))
 |isN v=>
  obtain rfl:vb=.none:=rb.inv
  rcases isNone_other (X:=X) (A:=A) (s:=s) ra with⟨rfl,h⟩|⟨h1,h2,h⟩
  ·rw[h];exact wpAny_is_self rfl (PH.here I (.bool _))
  ·rw[h];exact h1 _ (PH.here I (.bool _))
 |isntN v=>
  obtain rfl:vb=.none:=rb.inv
  rcases isNone_other (X:=X) (A:=A) (s:=s) ra with⟨rfl,h⟩|⟨h1,h2,h⟩
  ·rw[h];exact wpAny_isNot_self rfl (PH.here I (.bool _))
  ·rw[h];exact h2 _ (PH.here I (.bool _))
 |inn e=>
  obtain⟨t,rfl⟩:=ra.int_inv
  obtain⟨l,vs,rfl,ht,hr,hl⟩:=rb.tui I
  obtain⟨h1,h2⟩:=intsMem_any hr e
  refine SeqAt.in_tupleAt (isK _) ht (fun y hy=>eqAt_isK (h2 y (List.mem_toArray.mp hy))) ?_
  rw[List.any_toArray,h1];exact PH.here I (.bool _)
 |notin e=>
  obtain⟨t,rfl⟩:=ra.int_inv
  obtain⟨l,vs,rfl,ht,hr,hl⟩:=rb.tui I
  obtain⟨h1,h2⟩:=intsMem_any hr e
  refine SeqAt.notIn_tupleAt (isK _) ht (fun y hy=>eqAt_isK (h2 y (List.mem_toArray.mp hy))) ?_
  rw[List.any_toArray,h1];exact PH.here I (.bool _)
 |ink h=>
  obtain⟨t,rfl⟩:=ra.int_inv
  obtain⟨d,ps,rfl,hp,hr,hs⟩:=h.inv B I rb
  rw[lookA_isSome hr]
  exact wpAny_in_of (knd:=intKind pw X.w) (Zb _) hs hp.mapOf (PH.tok _ I (.bool _))
 |notink h=>
  obtain⟨t,rfl⟩:=ra.int_inv
  obtain⟨d,ps,rfl,hp,hr,hs⟩:=h.inv B I rb
  rw[lookA_isSome hr]
  exact wpAny_notIn_of (knd:=intKind pw X.w) (Zb _) hs hp.mapOf (PH.tok _ I (.bool _))
theorem sm63{vs:List Value}{xs:List V}(hr:VReps g vs xs)(hl:xs.length≤LIM):((List.toArray vs).size:Int) < 2 ^ 63:=by
 rw[Qo,hr.length]
 exact Int.lt_of_le_of_lt (Int.ofNat_le.mpr hl) (by decide)
theorem op_truth{va:Value}{a:V}{t:Bool}{Q:Bool→Shared→Prop}(I:HInv X g σ s)(ra:VRep g va a)(e:TruR a t)(h:∀k,Q t {s with toks:=k}):wpAny (model pw X.w) A (truthy va) Q NoE s:=by
 induction e with
 |none=>obtain rfl:va=.none:=ra.inv;exact QW (h s.toks)
 |bool b=>obtain rfl:va=.bool _:=ra.inv;exact wpAny_truthy_bool (h s.toks)
 |int i=>obtain⟨t,rfl⟩:=ra.int_inv;exact PySem.P.truthy_int (h s.toks)
 |tup xs=>
  obtain⟨l,vs,rfl,ht,hr,hl⟩:=ra.tui I
  have e:(!xs.isEmpty)=!(List.toArray vs).isEmpty:=by cases hr<;>rfl
  exact truthy_tuple ht (sm63 hr hl) (e▸h _)
 |fl xs=>
  obtain⟨l,vs,rfl,ht,hr,hl⟩:=ra.lii I
  have e:(!xs.isEmpty)=!(List.toArray vs).isEmpty:=by cases hr<;>rfl
  exact wpAny_truthy_list ht (sm63 hr hl) (e▸h _)
theorem sumV_ints:∀{xs:List V}{us:List Value}{t:Int},VReps g us xs→sumV xs=some t→∃ps:List (Int × Tok),us=ps.map (fun p=>Value.int p.1 p.2)∧t=(ps.map (·.1)).sum:=by
 intro xs
 induction xs with
 |nil=>intro us t r e;cases r;cases e;exact⟨[],rfl,rfl⟩
 |cons x xs ih=>
  intro us t r e
  cases r with
  |cons r1 r2=>
  cases x with
  |int i=>
   obtain⟨b,e1,e2⟩:=Option.map_eq_some_iff.mp (show(sumV xs).map _=some _ from e)
   obtain⟨u,rfl⟩:=r1.int_inv
   obtain⟨ps,h3,h4⟩:=ih r2 e1
   subst e2
   exact⟨(i,u)::ps,congrArg (_::·) h3,(congrArg (i+·) h4).trans List.sum_cons.symm⟩
  |_=>exact non e
noncomputable def bltA:Blt→Value
 | .len=>.builtin "len" | .tuple=>.type "tuple" | .int=>.type "int" | .sum=>.builtin "sum"
theorem op_blt{va:Value}{f:Blt}{a x:V}(hh:A.handled=none)(I:HInv X g σ s)(ra:VRep g va a)(e:BltR σ f a x):
  wpAny (model pw X.w) A (call (bltA f) [va]) (PH X g s.heap (x,σ)) NoE s:=by
 induction e with
 |len q=>
  cases q.inv I ra with
  |tup l vs ht hr hl=>
   rw[← hr.length]
   exact PyProof.Rows.len_tuple ht (sm63 hr hl) (PH.tok _ I (by rw[Qo];exact .int _ _))
  |list l vs ht hr hl=>
   rw[← hr.length]
   exact call_len_list ht (sm63 hr hl) (PH.tok _ I (by rw[Qo];exact .int _ _))
 |tuple q=>
  cases hq:q.inv I ra with
  |tup l vs ht hr hl=>
   cases q with
   |tup=>exact call_tuple_tup ht (PH.here I ra)
  |list l vs ht hr hl=>exact call_tuple_list ht (fun h' hk=>PH.fz (t:=s.toks) I hk rfl fun hn=>mk_tup hn hr hl) (by show(List.toArray vs).size≤_;rw[Qo,hr.length];exact hl)
 |int b=>
  obtain rfl:va=.bool b:=ra.inv
  cases b<;>exact call_int_bool (PH.tok _ I (.int ..))
 |sum e=>
  obtain⟨l,vs,rfl,ht,hr,hl⟩:=ra.lii I
  obtain⟨ps,rfl,rfl⟩:=sumV_ints hr e
  have e3:(ps.map fun p=>Value.int p.1 p.2).toArray=intItems ps.toArray:=by simp[intItems]
  rw[e3]at ht
  refine sum_intListG hh ht fun h' tk t' hk=>?_
  have e4:preSum (numAt ps.toArray) ps.toArray.size=(ps.map (·.1)).sum:=by
   rw[preSum_eq,List.take_of_length_le (by simp)]
  rw[e4]
  exact⟨g,I.grown hk,.int ..,.grown hk⟩
end
theorem ff{P:Prop}(h:false=true):P:=Bool.noConfusion h
theorem band{a b:Bool}(h:(a&&b)=true):a=true∧b=true:=Qq.mp h
theorem emp{α:Type}{l:List α}(h:l.isEmpty=true):l=[]:=List.isEmpty_iff.mp h
theorem nn{α:Type}{o:Option α}(h:o.isNone=true):o=none:=Option.isNone_iff_eq_none.mp h
theorem hd_{α:Type}{l:List α}{f:α→Bool}(h:l.head?.any f=true):∃y,l=y::l.tail∧f y=true:=by
 induction l with
 |nil=>exact nomatch h
 |cons y l=>exact⟨y,rfl,h⟩
theorem an_{α:Type}{o:Option α}{f:α→Bool}(h:o.any f=true):∃y,o=some y∧f y=true:=by
 induction o with
 |none=>exact nomatch h
 |some y=>exact⟨y,rfl,h⟩
theorem isE_{x:Expr}{n:Nat}{f:U→Bool}(h:isE n x f=true){y:Expr}(k:re n (un x)=some y):x=y∧f (un x)=true:=by with_unfolding_all exact(band h).imp (fun h=>inv n h k) id
theorem isS_{x:Stmt}{n:Nat}{f:W→Bool}(h:isS n x f=true){y:Stmt}(k:rw n (wn x)=some y):x=y∧f (wn x)=true:=by with_unfolding_all exact(band h).imp (fun h=>invS n h k) id
inductive NamI(x:Expr)(f:Str→Bool):Prop
 |mk (n p):x=.Name n p→f n=true→NamI x f
theorem nam_{x:Expr}{f:Str→Bool}(h:nam x f=true):NamI x f:=by with_unfolding_all exact .mk _ _ (isE_ (x:=x) (n:=23) h rfl).1 (isE_ (x:=x) (n:=23) h rfl).2
inductive CstI(x:Expr)(f:Const→Bool):Prop
 |mk (c k p):x=.Constant c k p→f c=true→CstI x f
inductive CallI(x:Expr)(f:Str→List Expr→Bool):Prop
 |mk (n p l q):x=.Call (.Name n p) l [] q→f n l=true→CallI x f
inductive MethI(x:Expr)(m:Str)(f:Expr→List Expr→Bool):Prop
 |mk (y ap l q):x=.Call (.Attribute y m ap) l [] q→(ap.endLine==q.line)=true→f y l=true→MethI x m f
theorem cst_{x:Expr}{f:Const→Bool}(h:cst x f=true):CstI x f:=by with_unfolding_all exact .mk _ _ _ (isE_ (x:=x) (n:=19) h rfl).1 (isE_ (x:=x) (n:=19) h rfl).2
theorem one_{l:List Expr}{f:Expr→Bool}(h:one l f=true):∃y,l=[y]∧f y=true∧notStar y=true:=by
 obtain⟨h1,h2⟩:l.head?.any (fun x=>f x&&notStar x)=true∧l.tail.isEmpty=true:=by with_unfolding_all exact band h
 obtain⟨y,e,h3⟩:=hd_ h1
 exact⟨y,e.trans (congrArg _ (emp h2)),band h3⟩
theorem callN_{x:Expr}{f:Str→List Expr→Bool}(h:callN x f=true):CallI x f:=by
 obtain⟨e,h⟩:=isE_ (x:=x) (n:=16) (f:=fun u=>u.kws.isEmpty&&nam u.e1 fun n=>f n u.es) (by with_unfolding_all exact h) rfl
 obtain⟨h1,h2⟩:=band h
 obtain⟨n,p,e2,h3⟩:=nam_ h2
 exact⟨n,p,_,_,by rw[e2,emp h1]at e;exact e,h3⟩
theorem methN_{x:Expr}{m:Str}{f:Expr→List Expr→Bool}(h:methN x m f=true):MethI x m f:=by
 obtain⟨e,h⟩:=isE_ (x:=x) (n:=16) (f:=fun u=>u.kws.isEmpty&&isE 20 u.e1 fun v=>decide (v.s=m)&&(v.p.endLine==u.p.line)&&f v.e1 u.es) (by with_unfolding_all exact h) rfl
 obtain⟨h1,h2⟩:=band h
 obtain⟨e2,h3⟩:=isE_ h2 rfl
 obtain⟨h4,h5⟩:=band h3
 obtain⟨h6,h7⟩:=band h4
 exact⟨_,_,_,_,by rw[e2,emp h1,QX h6]at e;exact e,h7,h5⟩
theorem loc_{c:Mt}{i:Nat}{n:Str}(h:isLoc c i n=true):c.vs[i]?=some n∧c.K n=some .local:=(band h).imp QX QX
theorem attributeBase_of{o:Expr}{a:Str}{env:Env}{w:Sem Value}(h:baseOk o=true):attributeBase o a env w=w:=by
 rcases Bool.or_eq_true_iff.mp h with h|h
 ·rcases Bool.or_eq_true_iff.mp h with h|h
  ·rw[inv 20 h rfl];rfl
  ·rw[inv 21 h rfl];rfl
 ·rw[inv 23 h rfl];rfl
section
variable {X:Wd}{d:Nat}{Γ:Fc X d}{ρ ρ₁ ρ₂ ρ₃:Rho}{σ σ₁ σ₂ σ₃:Sg}{t:St}
theorem wp_glob{n:Str}{p:Pos}{gv:GV}(I:FInv Γ ρ σ t)(h:isGlob Γ.c n gv=true){Q:Value→Shared→Prop}(k:∀u,GVal gv u→Q u t.s):Wp Γ (eval (.Name n p) Γ.env) Q t.s:=by
 obtain⟨h12,h3⟩:=band h
 obtain⟨h1,h2⟩:=band h12
 obtain⟨Mg,v,hg,hv,hr⟩:=(Γ.G n gv ((an_ h2).elim fun _ q=>gvb_ q.2▸q.1)).ex
 have kp:∀{a M},X.X.base.Ns a M→t.s.heap.Ns a M:=fun h=>h.keeps I.h.keepsBase
 refine wpAny_Name ?_ (by simpa using h3)
 rw[loadName_read Γ.ok.kind (Γ.K▸QX h1)]
 unfold loadGlobal
 rw[Γ.ok.glob,Γ.ok.blt]
 refine QV (wpAny_nsGet (kp hg) ?_)
 rcases hr with e|⟨e,Mb,hb,e'⟩
 ·rw[e]
  exact QW (k _ hv)
 ·rw[e]
  refine QV (wpAny_nsGet (kp hb) ?_)
  rw[e']
  exact QW (k _ hv)
theorem wp_slot{i:Nat}{n:Str}{p:Pos}{v:Value}(I:FInv Γ ρ σ t)(hn:Γ.c.vs[i]?=some n)(h:SlotIs Γ.env t n v){Q:Value→Shared→Prop}(k:Q v t.s):Wp Γ (eval (.Name n p) Γ.env) Q t.s:=by
 obtain⟨d1,d2⟩:=Γ.ok.nodbg n (Qz hn)
 refine wpAny_Name ?_ d1
 induction h with
 |loc h1 h2=>exact wpAny_loadName_local Γ.ok.kind h1 I.ns h2 k
 |cell c h1 h2 h3=>
  rcases h1 with h1|h1
  ·exact wpAny_loadName_cell Γ.ok.kind h1 h2 h3 k
  ·exact wpAny_loadName_free Γ.ok.kind h1 h2 h3 k d2
noncomputable def Al.drop(α:Al)(i:Nat):Al:=fun j=>if j=i then Option.none else α j
theorem Al.drop_ne{α:Al}{i j:Nat}(h:j≠i):α.drop i j=α j:=if_neg h
theorem Al.drop_some{α:Al}{i j:Nat}{a:Addr}(h:α.drop i j=some a):j≠i∧α j=some a:=if e:j=i then nomatch (if_pos e).symm.trans h else⟨e,(if_neg e).symm.trans h⟩
inductive OwnI(Γ:Fc X d)(t:St)(i:Nat)(xs:List V):Prop
 |mk (n a):Γ.c.vs[i]?=some n→SlotIs Γ.env t n (.ref a)→t.α i=some a→PList t.g t.s.heap a xs→OwnI Γ t i xs
theorem FInv.own(x:FInv Γ ρ σ t){i:Nat}{xs:List V}(h:ρ.get i=some (.o xs)):OwnI Γ t i xs:=by
 obtain⟨n,v,h1,h2,h3⟩:=x.sl i _ h
 cases h3 with
 |o a e h4 h5=>exact⟨n,a,h1,e▸h2,h4,h5⟩
noncomputable def St.fz(t:St)(i:Nat)(a:Addr)(o:Obj):St:=⟨t.s,t.g.fz a o,t.α.drop i,t.m⟩
inductive FrzI(Γ:Fc X d)(ρ:Rho)(σ:Sg)(t:St)(i:Nat)(xs:List V):Prop
 |mk (n a o):Γ.c.vs[i]?=some n→SlotIs Γ.env t n (.ref a)→VRep (t.g.fz a o) (.ref a) (.flist xs)→FInv Γ (ρ.put i (.v (.flist xs))) σ (t.fz i a o)→Step Γ t (t.fz i a o)→FrzI Γ ρ σ t i xs
theorem FInv.freeze(x:FInv Γ ρ σ t){i:Nat}{xs:List V}(h:ρ.get i=some (.o xs)):FrzI Γ ρ σ t i xs:=by
 obtain⟨n,a,h1,h2,h3,⟨vs,⟨k,ho⟩,h5⟩,hl⟩:=x.own h
 obtain⟨_,hf,_⟩:=x.ow i a h3
 have rep:=mk_list hf.f h5 hl (n:=k)
 generalize ({cls:=.type "list",data:=.seq vs.toArray k}:Obj)=o at rep ho
 have le:t.g.Le (t.g.fz a o):=.fz hf.f
 have ne:∀{b},b≠a→Free t.g b→Free (t.g.fz a o) b:=fun e h=>⟨h.i,(Gh.fz_ne e).trans h.f⟩
 have sm:∀{n v},SlotIs Γ.env t n v→SlotIs Γ.env (t.fz i a o) n v:=fun h=>h.mono (t:=t) rfl fun _ _ _ e=>e
 refine⟨n,a,o,h1,h2,rep,⟨x.h.fz hf.f hf.i ho,x.ns,fun j l e=>?_,fun j b e=>?_,fun j k b e e'=>x.owi j k b (Al.drop_some e).2 (Al.drop_some e').2,fun b q=>?_⟩,⟨le,fun _ l=>l,fun _ _ _ _ _ e=>e,fun _ l=>.inl l,fun j b hb=>.inl (Al.drop_some hb).2,fun b p e=>(Gh.fz_of e).elim (fun e=>.inr (.inl ⟨i,e.1▸h3⟩)) .inl⟩⟩
 ·rcases Rho.of_put e with⟨rfl,rfl⟩|⟨e1,e2⟩
  ·exact⟨n,_,h1,sm h2,.v rep⟩
  ·obtain⟨n',v,q1,q2,q3⟩:=x.sl j l e2
   refine⟨n',v,q1,sm q2,?_⟩
   induction q3 with
   |v q=>exact .v (q.mono le)
   |o b w1 w2 q=>exact .o b w1 ((Al.drop_ne e1).trans w2) (q.mono le fun _ e=>e)
 ·obtain⟨e1,e2⟩:=Al.drop_some e
  obtain⟨⟨ys,q1⟩,q2,q3⟩:=x.ow j b e2
  exact⟨⟨ys,(ρ.get_ne i _ e1).trans q1⟩,ne (fun q=>e1 (x.owi j i a (q▸e2) h3)) q2,q3⟩
 ·obtain⟨q1,q2,q3⟩:=x.pr b q
  exact⟨ne (fun e=>q2 i (e▸h3)) q1,fun j e=>q2 j (Al.drop_some e).2,q3⟩
theorem r_none:OkE X d .none ρ σ (.none,ρ,σ):=by
 intro Γ x t hx I
 replace hx:=cst_ hx;obtain⟨c,k,p,rfl,h⟩:=hx
 induction c<;>try exact ff h
 exact wpAny_Constant_none (PE.here I .none)
theorem r_bool{b:Bool}:OkE X d (.bool b) ρ σ (.bool b,ρ,σ):=by
 intro Γ x t hx I
 replace hx:=cst_ hx;obtain⟨c,k,p,rfl,h⟩:=hx
 induction c<;>try exact ff h
 exact wpAny_Constant_bool (PE.here I (Za h▸.bool _))
theorem isInt_{i:Int}{c:Const}(h:isInt i c=true):c=.int i:=by
 induction c<;>try exact ff h
 exact congrArg _ (Za h)
theorem r_int{i:Int}:OkE X d (.int i) ρ σ (.int i,ρ,σ):=by
 intro Γ x t hx I
 rcases Bool.or_eq_true_iff.mp hx with hx|hx
 ·rcases Bool.or_eq_true_iff.mp hx with hx|hx
  ·replace hx:=cst_ hx;obtain⟨c,k,p,rfl,h⟩:=hx
   rw[isInt_ h]
   exact wpAny_Constant_int (PE.tok _ I (.int ..))
  ·obtain⟨e,h⟩:=isE_ hx rfl
   obtain⟨h1,h2⟩:=band h
   obtain⟨c,k,p,e2,h3⟩:=cst_ h2
   rw[QX h1,e2,isInt_ h3]at e
   rw[e]
   refine UnaryOp_ (wpAny_Constant_int (PySem.P.neg_int ?_))
   rw[Int.neg_neg]
   exact PE.tok _ I (.int ..)
 ·replace hx:=nam_ hx;obtain⟨n,p,rfl,h⟩:=hx
  exact wp_glob I h fun u q=>by cases q;exact PE.here I (.int ..)
theorem r_str{n:Nat}:OkE X d (.str n) ρ σ (.str n,ρ,σ):=by
 intro Γ x t hx I
 obtain⟨h1,h2⟩:=band hx
 obtain⟨c,k,p,rfl,h⟩:=cst_ h2
 induction c<;>try exact ff h
 cases Za h
 exact wpAny_Constant_str (PE.tok _ I (.str _ _ (QX h1)))
theorem r_tt:OkE X d .tt ρ σ (.tup [.int 1,.int 1,.int 1],ρ,σ):=by
 intro Γ x t hx I
 replace hx:=nam_ hx;obtain⟨n,p,rfl,h⟩:=hx
 exact wp_glob I h fun u q=>by cases q;exact PE.here I (X.B.tt.mono I.h.leBase)
theorem r_gd{k:Nat}:OkE X d (.gd k) ρ σ (.gd k,ρ,σ):=by
 intro Γ x t hx I
 replace hx:=nam_ hx;obtain⟨n,p,rfl,h⟩:=hx
 exact wp_glob I h fun u q=>by cases q;exact PE.here I (.gd k)
theorem r_var{i:Nat}{v:V}(e:ρ.get i=some (.v v)):OkE X d (.var i) ρ σ (v,ρ,σ):=by
 intro Γ x t hx I
 replace hx:=nam_ hx;obtain⟨n,p,rfl,h⟩:=hx
 obtain⟨n',u,h1,h2,h3⟩:=I.sl i _ e
 cases h3 with
 |v h3=>
 cases(QX h).symm.trans h1
 exact wp_slot I h1 h2 (PE.here I h3)
theorem r_varO{i:Nat}{xs:List V}(e:ρ.get i=some (.o xs)):OkE X d (.var i) ρ σ (.flist xs,ρ.put i (.v (.flist xs)),σ):=by
 intro Γ x t hx I
 replace hx:=nam_ hx;obtain⟨n,p,rfl,h⟩:=hx
 obtain⟨n',a,o,h1,h2,h3,J,st⟩:=I.freeze e
 cases(QX h).symm.trans h1
 exact wp_slot I h1 h2 (.mk (t.fz i a o) J rfl h3 st)
theorem l_nil:OkL X d .nil ρ σ ([],ρ,σ):=by
 refine⟨fun Γ xs p t hx I=>?_,rfl⟩
 rw[emp hx]
 exact spliced_none (.mk t I rfl .nil (.refl ..))
theorem cons_{c:Mt}{e:E}{es:Es}{xs:List Expr}(h:okEs c (.cons e es) xs=true):∃x,xs=x::xs.tail∧okE c e x=true∧notStar x=true∧okEs c es xs.tail=true:=by
 obtain⟨h1,h2⟩:=band h
 obtain⟨x,e,h3⟩:=hd_ h1
 obtain⟨h4,h5⟩:=band h3
 exact⟨x,e,h4,h5,h2⟩
theorem l_cons{e:E}{es:Es}{v:V}{vs:List V}(h1:OkE X d e ρ σ (v,ρ₁,σ₁))(h2:OkL X d es ρ₁ σ₁ (vs,ρ₂,σ₂)):OkL X d (.cons e es) ρ σ (v::vs,ρ₂,σ₂):=by
 refine⟨fun Γ xs p t hx I=>?_,congrArg (·+ 1) h2.len⟩
 obtain⟨x,e,q1,q2,q3⟩:=cons_ hx
 rw[e]
 exact spliced_more (h1.go q1 I fun u t₁ I₁ m₁ r₁ s₁=>h2.go q3 I₁ fun us t₂ I₂ m₂ r₂ s₂=>.mk t₂ I₂ (m₂.trans m₁) (.cons (r₁.mono s₂.le) r₂) (s₁.trans s₂)) (starEach_cons q2)
theorem okEs_star{c:Mt}:∀(es:Es){xs:List Expr},okEs c es xs=true→∀x∈xs,notStar x=true
 | .nil,_,h,x,hx=>by rw[emp h]at hx;exact nomatch hx
 | .cons _ es,_,h,x,hx=>by
  obtain⟨y,e,_,q2,q3⟩:=cons_ h
  rw[e]at hx
  rcases Qt.mp hx with rfl|hx
  ·exact q2
  ·exact okEs_star es q3 x hx
theorem okEs_len{c:Mt}:∀(es:Es){l:List Expr},okEs c es l=true→l.length=es.len
 | .nil,_,h=>by rw[emp h];rfl
 | .cons _ es,_,h=>by
  obtain⟨x,e,_,_,q⟩:=cons_ h
  rw[e]
  exact congrArg (·+ 1) (okEs_len es q)
end
section
variable {X:Wd}{d:Nat}{Γ:Fc X d}{ρ ρ₁ ρ₂ ρ₃:Rho}{σ σ₁ σ₂ σ₃:Sg}{t t₁ t₂:St}
theorem Fc.u(Γ:Fc X d):Γ.A.units+64 < cLine:=by have:=Γ.uni;lia
theorem disp{es:Es}{vs:List V}{l:List Expr}{p:Pos}{T:String}{Q:Value→Shared→Prop}(h:OkL X d es ρ σ (vs,ρ₁,σ₁))(hx:(okEs Γ.c es l&&decide (l.length≤1000))=true)(I:FInv Γ ρ σ t)
  (k:∀us t',FInv Γ ρ₁ σ₁ t'→t'.m=t.m→VReps t'.g us vs→vs.length≤LIM→Step Γ t t'→Q (.ref t'.s.heap.objs.size) {t'.s with heap:=t'.s.heap.push {cls:=.type T,data:=.seq us.toArray}}):
  Wp Γ (spliced (backTo p (starEach l Γ.env))) (fun us s=>Wp Γ (newObj (.type T) (.seq us.toArray) none) Q s) t.s:=by
 obtain⟨h1,h2⟩:=band hx
 have hl:vs.length≤LIM:=h.len▸okEs_len es h1▸Qf (QX h2) (by decide)
 exact h.go h1 I fun us t₁ I₁ m₁ R s₁=>wpAny_newObj_type (k us t₁ I₁ m₁ R hl s₁) (by show us.toArray.size≤_;rw[Qo,R.length];exact hl)
theorem PE.postp{u:Value}{x:V}{s':Shared}(I:FInv Γ ρ σ t₁)(hm:t₁.m=t.m)(st:Step Γ t t₁)(h:PH X.X t₁.g t₁.s.heap (x,σ₁) u s'):PE Γ t (x,ρ,σ₁) u s':=by
 obtain⟨g',J,r,st'⟩:=h
 exact .mk ⟨s',g',t₁.α,t₁.m⟩ (I.lift J st') hm r (st.trans st'.up)
theorem r_tup{es:Es}{vs:List V}(h:OkL X d es ρ σ (vs,ρ₁,σ₁)):OkE X d (.tup es) ρ σ (.tup vs,ρ₁,σ₁):=by
 intro Γ x t hx I
 obtain⟨e,hx⟩:=isE_ hx rfl
 rw[e]
 exact Tuple_ (disp h hx I fun us t₁ I₁ m₁ R l s₁=>PE.postp I₁ m₁ s₁ (PH.fz (t:=t₁.s.toks) I₁.h (fun _ _ e=>e) rfl fun hn=>mk_tup hn R l))
theorem r_lst{es:Es}{vs:List V}(h:OkL X d es ρ σ (vs,ρ₁,σ₁)):OkE X d (.lst es) ρ σ (.flist vs,ρ₁,σ₁):=by
 intro Γ x t hx I
 obtain⟨e,hx⟩:=isE_ hx rfl
 rw[e]
 exact List_ (disp h hx I fun us t₁ I₁ m₁ R l s₁=>PE.postp I₁ m₁ s₁ (PH.fz (t:=t₁.s.toks) I₁.h (fun _ _ e=>e) rfl fun hn=>mk_list hn R l))
theorem r_newl{es:Es}{vs:List V}(h:OkL X d es ρ σ (vs,ρ₁,σ₁)):OkE X d (.newl es) ρ σ (.ref σ₁.length,ρ₁,σ₁++[.list vs]):=by
 intro Γ x t hx I
 obtain⟨e,hx⟩:=isE_ hx rfl
 rw[e]
 exact List_ (disp h hx I fun us t₁ I₁ m₁ R l s₁=>PE.postp I₁ m₁ s₁ (PH.al (t:=t₁.s.toks) I₁.h rfl ⟨⟨us,⟨0,QF _ rfl⟩,R.mono .al⟩,l⟩))
theorem r_newi:OkE X d .newi ρ σ (.ref σ.length,ρ,σ++[.idict []]):=by
 intro Γ x t hx I
 obtain⟨e,hx⟩:=isE_ hx rfl
 obtain⟨h1,h2⟩:=band hx
 rw[e,emp h1,emp h2]
 exact wpAny_Dict_empty (PE.postp I rfl (.refl ..) (PH.al (t:=t.s.toks) I.h rfl ⟨[],.new _,.nil⟩))
theorem r_newt:OkE X d .newt ρ σ (.ref σ.length,ρ,σ++[.tdict []]):=by
 intro Γ x t hx I
 obtain⟨e,hx⟩:=isE_ hx rfl
 obtain⟨h1,h2⟩:=band hx
 rw[e,emp h1,emp h2]
 exact wpAny_Dict_empty (PE.postp I rfl (.refl ..) (PH.al (t:=t.s.toks) I.h rfl ⟨⟨_,[],0,QF _ rfl,⟨rfl,rfl,rfl⟩,rfl,.nil⟩,.nil⟩))
theorem r_sub{a b:E}{v u w:V}(h1:OkE X d a ρ σ (v,ρ₁,σ₁))(h2:OkE X d b ρ₁ σ₁ (u,ρ₂,σ₂))(e:SubR σ₂ v u w):OkE X d (.sub a b) ρ σ (w,ρ₂,σ₂):=by
 intro Γ x t hx I
 obtain⟨ex,hx⟩:=isE_ hx rfl
 obtain⟨hx,q3⟩:=band hx
 obtain⟨q1,q2⟩:=band hx
 rw[ex]
 exact Subscript_ (h1.go q1 I fun u t₁ I₁ m₁ R₁ s₁=>h2.go q2 I₁ fun w t₂ I₂ m₂ R₂ s₂=>PE.post I₂ (m₂.trans m₁) (s₁.trans s₂) (op_sub (fun _ _=>subscripted_of q3 _ _) I₂.h (R₁.mono s₂.le) R₂ e))
theorem r_bin{o:Bop}{a b:E}{v u w:V}(h1:OkE X d a ρ σ (v,ρ₁,σ₁))(h2:OkE X d b ρ₁ σ₁ (u,ρ₂,σ₂))(e:BinR o v u w):OkE X d (.bin o a b) ρ σ (w,ρ₂,σ₂):=by
 intro Γ x t hx I
 obtain⟨ex,hx⟩:=isE_ hx rfl
 obtain⟨hx,q3⟩:=band hx
 obtain⟨q1,q2⟩:=band hx
 rw[ex,QX q2]
 exact wpAny_BinOp (h1.go q1 I fun u t₁ I₁ m₁ R₁ s₁=>h2.go q3 I₁ fun w t₂ I₂ m₂ R₂ s₂=>PE.post I₂ (m₂.trans m₁) (s₁.trans s₂) (op_bin I₂.h (R₁.mono s₂.le) R₂ e))
inductive CmpI(c:Mt)(o:Cop)(a b:E)(x:Expr):Prop
 |mk (y z p):x=.Compare y [copA o] [z] p→okE c a y=true→okE c b z=true→behindInMarks (copA o) z=false→CmpI c o a b x
theorem cmp_{o:Cop}{a b:E}{c:Mt}{x:Expr}(hx:okE c (.cmp o a b) x=true):CmpI c o a b x:=by
 obtain⟨ex,hx⟩:=isE_ hx rfl
 obtain⟨hx,q4⟩:=band hx
 obtain⟨hx,q3⟩:=band hx
 obtain⟨q1,q2⟩:=band hx
 obtain⟨z,e,q5⟩:=hd_ q4
 obtain⟨q6,q7⟩:=band q5
 exact⟨_,z,_,by rw[of_decide_eq_true q2,e,emp q3]at ex;exact ex,q1,q6,by simpa using q7⟩
theorem r_cmp{o:Cop}{a b:E}{v u:V}{w:Bool}(h1:OkE X d a ρ σ (v,ρ₁,σ₁))(h2:OkE X d b ρ₁ σ₁ (u,ρ₂,σ₂))(e:CmpR σ₂ o v u w):OkE X d (.cmp o a b) ρ σ (.bool w,ρ₂,σ₂):=by
 intro Γ x t hx I
 obtain⟨y,z,p,rfl,q1,q2,q3⟩:=cmp_ hx
 exact wpAny_Compare1 (h1.go q1 I fun u t₁ I₁ m₁ R₁ s₁=>h2.go q2 I₁ fun w t₂ I₂ m₂ R₂ s₂=>PE.post I₂ (m₂.trans m₁) (s₁.trans s₂) (op_cmp X.B I₂.h Γ.u (R₁.mono s₂.le) R₂ e)) q3
theorem r_not{a:E}{v:V}{w:Bool}(h1:OkE X d a ρ σ (v,ρ₁,σ₁))(e:TruR v w):OkE X d (.not a) ρ σ (.bool (!w),ρ₁,σ₁):=by
 intro Γ x t hx I
 obtain⟨ex,hx⟩:=isE_ hx rfl
 obtain⟨q1,q2⟩:=band hx
 rw[ex,QX q1]
 exact UnaryOp_ (h1.go q2 I fun u t₁ I₁ m₁ R₁ s₁=>not_of (op_truth I₁.h R₁ e fun k=>.mk ⟨{t₁.s with toks:=k},t₁.g,t₁.α,t₁.m⟩ (I₁.tok k) m₁ (.bool _) s₁))
theorem r_ite{c a b:E}{w:Bool}{r:V × Rho × Sg}(h1:OkT X d c ρ σ (w,ρ₁,σ₁))(h2:@Bool.rec (fun _=>Prop) (OkE X d b ρ₁ σ₁ r) (OkE X d a ρ₁ σ₁ r) w):OkE X d (.ite c a b) ρ σ r:=by
 intro Γ x t hx I
 obtain⟨ex,hx⟩:=isE_ hx rfl
 obtain⟨hx,q3⟩:=band hx
 obtain⟨q1,q2⟩:=band hx
 rw[ex]
 refine IfExp_ (h1.go q1 I fun t₁ I₁ m₁ s₁=>?_)
 cases w with
 |true=>exact OkE.go h2 q2 I₁ fun u t₂ I₂ m₂ R₂ s₂=>.mk t₂ I₂ (m₂.trans m₁) R₂ (s₁.trans s₂)
 |false=>exact OkE.go h2 q3 I₁ fun u t₂ I₂ m₂ R₂ s₂=>.mk t₂ I₂ (m₂.trans m₁) R₂ (s₁.trans s₂)
noncomputable def pl(x:Expr):Bool:=notTag 0 x&&notTag 3 x&&notTag 5 x&&notTag 15 x
theorem pl_{x:Expr}{env:Env}{w:Sem Value}(h:pl x=true):isTrue x env w=(do let v ← w;standAt x.pos;holding [v] (truthy v)):=by
 cases x<;>first|rfl|exact ff h
theorem t_pl{e:E}{v:V}{w:Bool}(h1:OkE X d e ρ σ (v,ρ₁,σ₁))(q:TruR v w)(hp:∀c x,okE c e x=true→pl x=true):OkT X d e ρ σ (w,ρ₁,σ₁):=fun Γ x t hx I=>
 isTrue_plain (h1.go hx I fun u t₁ I₁ m₁ R₁ s₁=>op_truth I₁.h R₁ q fun k=>.mk ⟨{t₁.s with toks:=k},t₁.g,t₁.α,t₁.m⟩ (I₁.tok k) m₁ s₁) (pl_ (hp _ x hx))
theorem pl_tag{n:Nat}{f:U→Bool}{x:Expr}(h:isE n x f=true)(k:(!(Nat.beq n 0)&&!(Nat.beq n 3)&&!(Nat.beq n 5)&&!(Nat.beq n 15))=true):pl x=true:=by
 have e:=Nat.eq_of_beq_eq_true (show Nat.beq x.ctorIdx n=true by with_unfolding_all exact(band h).1)
 unfold pl notTag
 rw[e]
 exact k
theorem t_not{a:E}{w:Bool}(h1:OkT X d a ρ σ (w,ρ₁,σ₁)):OkT X d (.not a) ρ σ (!w,ρ₁,σ₁):=by
 intro Γ x t hx I
 obtain⟨ex,hx⟩:=isE_ hx rfl
 obtain⟨q1,q2⟩:=band hx
 rw[ex,QX q1]
 exact isTrue_not (h1.go q2 I fun t₁ I₁ m₁ s₁=>.mk t₁ I₁ m₁ s₁)
theorem t_ite{c a b:E}{w:Bool}{r:Bool × Rho × Sg}(h1:OkT X d c ρ σ (w,ρ₁,σ₁))(h2:@Bool.rec (fun _=>Prop) (OkT X d b ρ₁ σ₁ r) (OkT X d a ρ₁ σ₁ r) w):OkT X d (.ite c a b) ρ σ r:=by
 intro Γ x t hx I
 obtain⟨ex,hx⟩:=isE_ hx rfl
 obtain⟨hx,q3⟩:=band hx
 obtain⟨q1,q2⟩:=band hx
 rw[ex]
 refine isTrue_IfExp (h1.go q1 I fun t₁ I₁ m₁ s₁=>?_)
 cases w with
 |true=>exact OkT.go h2 q2 I₁ fun t₂ I₂ m₂ s₂=>.mk t₂ I₂ (m₂.trans m₁) (s₁.trans s₂)
 |false=>exact OkT.go h2 q3 I₁ fun t₂ I₂ m₂ s₂=>.mk t₂ I₂ (m₂.trans m₁) (s₁.trans s₂)
theorem t_cmp{o:Cop}{a b:E}{v u:V}{w:Bool}(h1:OkE X d a ρ σ (v,ρ₁,σ₁))(h2:OkE X d b ρ₁ σ₁ (u,ρ₂,σ₂))(e:CmpR σ₂ o v u w):OkT X d (.cmp o a b) ρ σ (w,ρ₂,σ₂):=by
 intro Γ x t hx I
 obtain⟨y,z,p,rfl,q1,q2,q3⟩:=cmp_ hx
 refine wpAny_isTrue_Compare1 (h1.go q1 I fun u t₁ I₁ m₁ R₁ s₁=>h2.go q2 I₁ fun w t₂ I₂ m₂ R₂ s₂=>wpm (op_cmp X.B I₂.h Γ.u (R₁.mono s₂.le) R₂ e) fun u s q=>?_) q3
 obtain⟨g',J,r,st'⟩:=q
 obtain rfl:=r.inv
 exact wpAny_truthy_bool (PT.mk (r:=(_,ρ₂,σ₂)) ⟨s,g',t₂.α,t₂.m⟩ (I₂.lift J st') (m₂.trans m₁) ((s₁.trans s₂).trans st'.up))
noncomputable abbrev bopT(t:Bool):BoolOp:=if t then .And else .Or
noncomputable def OkV(X:Wd)(d:Nat)(b:Bool)(es:Es)(ρ:Rho)(σ:Sg)(r:V × Rho × Sg):Prop:=∀(Γ:Fc X d) xs p t,okEs Γ.c es xs=true→FInv Γ ρ σ t→Wp Γ (boolOp p (bopT b) (evalEach xs Γ.env)) (PE Γ t r) t.s
noncomputable def OkU(X:Wd)(d:Nat)(b:Bool)(es:Es)(ρ:Rho)(σ:Sg)(r:Bool × Rho × Sg):Prop:=∀(Γ:Fc X d) xs p w t,okEs Γ.c es xs=true→FInv Γ ρ σ t→Wp Γ (isTrue (.BoolOp (bopT b) xs p) Γ.env w) (PT Γ t r) t.s
theorem v_one{b:Bool}{e:E}{r:V × Rho × Sg}(h:OkE X d e ρ σ r):OkV X d b (.cons e .nil) ρ σ r:=by
 intro Γ xs p t hx I
 obtain⟨x,e,q1,q2,q3⟩:=cons_ hx
 rw[e,emp q3]
 exact h Γ x t q1 I
theorem boolOp_cons{M:Model}{A:Around}{E:Value→Shared→Prop}{s:Shared}{pos:Pos}{t:Bool}{x y:Sem Value}{rest:List (Sem Value)}{Q:Value→Shared→Prop}
  (h:wpAny M A x (fun v s₁=>wpAny M A (truthy v) (fun b s₂=>if b=t then wpAny M A (boolOp pos (bopT t) (y::rest)) Q E s₂ else Q v s₂) E s₁) E s):
  wpAny M A (boolOp pos (bopT t) (x::y::rest)) Q E s:=by
 rw[boolOp]
 ·refine QV (QY h (fun v s₁ h₁=>QV (wpAny_standAt (QV (wpAny_holding (QY h₁ (fun b s₂ h₂=>?_) fun _ _ q=>q))))) fun _ _ q=>q)
  cases t<;>cases b
  ·exact h₂
  ·exact QW h₂
  ·exact QW h₂
  ·exact h₂
 ·exact fun h=>nomatch h
theorem v_cons{b w:Bool}{e e':E}{es:Es}{v:V}{r:V × Rho × Sg}(h:OkE X d e ρ σ (v,ρ₁,σ₁))(q:TruR v w)(h2:w=b→OkV X d b (.cons e' es) ρ₁ σ₁ r)(h3:w≠b→r=(v,ρ₁,σ₁)):OkV X d b (.cons e (.cons e' es)) ρ σ r:=by
 intro Γ xs p t hx I
 obtain⟨x,e,q1,q2,q3⟩:=cons_ hx
 obtain⟨y,e2,_⟩:=cons_ q3
 rw[e]
 generalize xs.tail=l at e2 q3
 rw[e2]at q3⊢
 refine boolOp_cons (h.go q1 I fun u t₁ I₁ m₁ R₁ s₁=>op_truth I₁.h R₁ q fun k=>?_)
 by_cases hw:w=b
 ·rw[if_pos hw]
  exact wpm (h2 hw Γ (y::l.tail) p _ q3 (I₁.tok k)) fun u _ q=>PE.rec (t:=⟨{t₁.s with toks:=k},t₁.g,t₁.α,t₁.m⟩) (motive:=fun s _=>PE Γ t r u s) (fun t' I₂ m₂ R₂ s₂=>.mk t' I₂ (m₂.trans m₁) R₂ (s₁.trans s₂)) q
 ·rw[if_neg hw,h3 hw]
  exact .mk ⟨{t₁.s with toks:=k},t₁.g,t₁.α,t₁.m⟩ (I₁.tok k) m₁ R₁ s₁
theorem r_bop{b:Bool}{es:Es}{r:V × Rho × Sg}(h:OkV X d b es ρ σ r):OkE X d (.bop b es) ρ σ r:=by
 intro Γ x t hx I
 obtain⟨ex,hx⟩:=isE_ hx rfl
 obtain⟨q1,q2⟩:=band hx
 rw[ex,QX q1]
 exact h Γ _ _ t q2 I
theorem u_nil{b:Bool}:OkU X d b .nil ρ σ (b,ρ,σ):=by
 intro Γ xs p w t hx I
 rw[emp hx]
 cases b
 ·exact isTrue_or_nil (.mk t I rfl (.refl ..))
 ·exact isTrue_and_nil (.mk t I rfl (.refl ..))
theorem isTrue_bool{M:Model}{A:Around}{env:Env}{E:Value→Shared→Prop}{s:Shared}{t:Bool}{x:Expr}{rest:List Expr}{pos:Pos}{whole:Sem Value}{Q:Bool→Shared→Prop}
  (h:wpAny M A (isTrue x env (eval x env)) (fun b s₁=>if b=t then wpAny M A (isTrue (.BoolOp (bopT t) rest pos) env whole) Q E s₁ else Q b s₁) E s):
  wpAny M A (isTrue (.BoolOp (bopT t) (x::rest) pos) env whole) Q E s:=by
 cases t
 ·exact isTrue_or (QY h (fun b s₁ h₁=>by cases b<;>exact h₁) fun _ _ q=>q)
 ·exact isTrue_and (QY h (fun b s₁ h₁=>by cases b<;>exact h₁) fun _ _ q=>q)
theorem u_cons{b w:Bool}{e:E}{es:Es}{r:Bool × Rho × Sg}(h:OkT X d e ρ σ (w,ρ₁,σ₁))(h2:w=b→OkU X d b es ρ₁ σ₁ r)(h3:w≠b→r=(w,ρ₁,σ₁)):OkU X d b (.cons e es) ρ σ r:=by
 intro Γ xs p wh t hx I
 obtain⟨x,e,q1,q2,q3⟩:=cons_ hx
 rw[e]
 refine isTrue_bool (h.go q1 I fun t₁ I₁ m₁ s₁=>?_)
 by_cases hw:w=b
 ·rw[if_pos hw]
  exact wpm (h2 hw Γ _ p wh _ q3 I₁) fun u _ q=>PT.rec (motive:=fun u s _=>PT Γ t r u s) (fun t' I₂ m₂ s₂=>.mk t' I₂ (m₂.trans m₁) (s₁.trans s₂)) q
 ·rw[if_neg hw,h3 hw]
  exact .mk t₁ I₁ m₁ s₁
theorem t_bop{b:Bool}{es:Es}{r:Bool × Rho × Sg}(h:OkU X d b es ρ σ r):OkT X d (.bop b es) ρ σ r:=by
 intro Γ x t hx I
 obtain⟨ex,hx⟩:=isE_ hx rfl
 obtain⟨q1,q2⟩:=band hx
 rw[ex,QX q1]
 exact h Γ _ _ _ t q2 I
theorem r_blt{f:Blt}{a:E}{v w:V}(h1:OkE X d a ρ σ (v,ρ₁,σ₁))(e:BltR σ₁ f v w):OkE X d (.blt f a) ρ σ (w,ρ₁,σ₁):=by
 intro Γ x t hx I
 replace hx:=callN_ hx;obtain⟨n,p,l,q,rfl,hx⟩:=hx
 obtain⟨q1,q2⟩:=band hx
 obtain⟨y,rfl,q3,q4⟩:=one_ q2
 refine wpAny_Call_Name_kw (wp_glob I q1 fun u hu=>?_)
 have main:Wp Γ (eval y Γ.env) (fun v' s₁=>Wp Γ (call (bltA f) [v']) (PE Γ t (w,ρ₁,σ₁)) s₁) t.s:=h1.go q3 I fun u t₁ I₁ m₁ R₁ s₁=>PE.post I₁ m₁ s₁ (op_blt Γ.hd I₁.h R₁ e)
 rw[starEach_cons q4]
 induction f with
 |len=>cases hu;exact callWith_builtin1 main
 |tuple=>cases hu;exact PySem.callWith_type1 main
 |int=>cases hu;exact PySem.callWith_type1 main
 |sum=>cases hu;exact callWith_builtin1 main
end
noncomputable def putM(m:Str→Option Value)(n:Str)(v:Value):Str→Option Value:=fun x=>if x=n then some v else m x
noncomputable def Al.set(α:Al)(i:Nat)(a:Addr):Al:=fun j=>if j=i then some a else α j
noncomputable def al1(a:Addr):Al:=fun i=>if i=0 then some a else none
theorem al1_some{a b:Addr}{i:Nat}(h:al1 a i=some b):i=0∧b=a:=if e:i=0 then⟨e,(Ql ((if_pos e).symm.trans h)).symm⟩else nomatch (if_neg e).symm.trans h
noncomputable def Rho.del(r:Rho)(x:Nat):Rho:=List.rec [] (fun p _ ih=>@Bool.rec (fun _=>Rho) (p::ih) ih (Nat.beq x p.1)) r
theorem Rho.del_eq(p:Nat × Lv)(r:Rho)(x y:Nat){b:Bool}(h:Nat.beq x p.1=b):Rho.get (Rho.del (p::r) x) y=Rho.get (@Bool.rec (fun _=>Rho) (p::Rho.del r x) (Rho.del r x) b) y:=h▸rfl
theorem Rho.get_cons(p:Nat × Lv)(r:Rho){y:Nat}{b:Bool}(h:Nat.beq y p.1=b):Rho.get (p::r) y=@Bool.rec (fun _=>Option Lv) (Rho.get r y) (some p.2) b:=h▸rfl
theorem Rho.del_self(ρ:Rho)(x:Nat):Rho.get (Rho.del ρ x) x=none:=by
 induction ρ with
 |nil=>rfl
 |cons p r ih=>
  cases h:Nat.beq x p.1 with
  |true=>exact(Rho.del_eq p r x x h).trans ih
  |false=>exact(Rho.del_eq p r x x h).trans ((Rho.get_cons p _ h).trans ih)
theorem Rho.del_ne(ρ:Rho){x y:Nat}(hy:y≠x):Rho.get (Rho.del ρ x) y=Rho.get ρ y:=by
 induction ρ with
 |nil=>rfl
 |cons p r ih=>
  cases h:Nat.beq x p.1 with
  |true=>exact(Rho.del_eq p r x y h).trans (ih.trans (Rho.get_cons p r (nbeq y fun e=>hy (e.trans (Qy h).symm))).symm)
  |false=>
   refine(Rho.del_eq p r x y h).trans ?_
   cases h':Nat.beq y p.1 with
   |true=>exact(Rho.get_cons p _ h').trans (Rho.get_cons p r h').symm
   |false=>exact(Rho.get_cons p _ h').trans (ih.trans (Rho.get_cons p r h').symm)
noncomputable def outRho(ρ:Rho)(x:Nat)(o:Option (List V)):Rho:=@Option.rec (List V) (fun _=>Rho) (Rho.del ρ x) (fun ys=>ρ.put x (.o ys)) o
section
variable {X:Wd}{d:Nat}{Γ:Fc X d}{ρ ρ' ρ₁ ρ₂ ρ₃:Rho}{σ σ' σ₁ σ₂ σ₃:Sg}{t t' t₀ t₁ t₂:St}
theorem idx_ne{i j:Nat}{n n':Str}(Γ:Fc X d)(h1:Γ.c.vs[i]?=some n)(h2:Γ.c.vs[j]?=some n')(h:j≠i):n'≠n:=fun e=>h (nodup_idx Γ.ok.nodup h2 (e▸h1))
theorem FInv.at(x:FInv Γ ρ σ t)(i:Nat)(hi:HInv X.X t'.g σ' t'.s)(ns:t'.s.heap.Ns Γ.env.locals t'.m)(le:t.g.Le t'.g)(hρ:∀j l,j≠i→ρ'.get j=some l→ρ.get j=some l)
  (hr:∀j ys,j≠i→ρ.get j=some (.o ys)→ρ'.get j=some (.o ys)) (hs:∀l,ρ'.get i=some l→∃n v,Γ.c.vs[i]?=some n∧SlotIs Γ.env t' n v∧LvRep t' i v l) (sm:∀j n v,j≠i→Γ.c.vs[j]?=some n→SlotIs Γ.env t n v→SlotIs Γ.env t' n v)
  (hα:∀j,j≠i→t'.α j=t.α j) (ho:∀a,t'.α i=some a→(∃xs,ρ'.get i=some (.o xs))∧Free t'.g a∧Live t'.s.heap a∧(∀j,j≠i→t.α j≠some a)∧¬Priv Γ.env a)
  (ko:∀j a,j≠i→t.α j=some a→Keep t.s.heap t'.s.heap a) (fr:∀a,Free t.g a→Live t.s.heap a→(∀xs,ρ.get i=some (.o xs)→t.α i≠some a)→Free t'.g a) (lv:∀a,Live t.s.heap a→Live t'.s.heap a):FInv Γ ρ' σ' t':=by
 have own:∀{a},t.α i=some a→∃xs,ρ.get i=some (.o xs):=fun h=>(x.ow i _ h).1
 refine⟨hi,ns,fun j l e=>?_,fun j a e=>?_,fun j k a e e'=>?_,fun a q=>?_⟩
 ·by_cases hj:j=i
  ·subst hj;exact hs l e
  ·obtain⟨n,v,h1,h2,h3⟩:=x.sl j l (hρ j l hj e)
   refine⟨n,v,h1,sm j n v hj h1 h2,?_⟩
   induction h3 with
   |v h=>exact .v (h.mono le)
   |o a e1 e2 h=>exact .o a e1 ((hα j hj).trans e2) (h.mono le (ko j a hj e2))
 ·by_cases hj:j=i
  ·subst hj
   obtain⟨h1,h2,h3,_⟩:=ho a e
   exact⟨h1,h2,h3⟩
  ·have e:=(hα j hj).symm.trans e
   obtain⟨⟨xs,h1⟩,h2,h3⟩:=x.ow j a e
   exact⟨⟨xs,hr j xs hj h1⟩,fr a h2 h3 fun _ _ q=>hj (x.owi j i a e q),lv a h3⟩
 ·by_cases hj:j=i<;>by_cases hk:k=i
  ·exact hj.trans hk.symm
  ·subst hj;exact absurd ((hα k hk).symm.trans e') ((ho a e).2.2.2.1 k hk)
  ·subst hk;exact absurd ((hα j hj).symm.trans e) ((ho a e').2.2.2.1 j hj)
  ·exact x.owi j k a ((hα j hj).symm.trans e) ((hα k hk).symm.trans e')
 ·obtain⟨h1,h2,h3⟩:=x.pr a q
  refine⟨fr a h1 h3 fun _ _=>h2 i,fun j e=>?_,lv a h3⟩
  by_cases hj:j=i
  ·subst hj;exact(ho a e).2.2.2.2 q
  ·exact h2 j ((hα j hj).symm.trans e)
noncomputable def St.put(t:St)(h':Heap)(k:Tok)(α:Al)(n:Str)(v:Value):St:=⟨{t.s with heap:=h',toks:=k},t.g,α,putM t.m n v⟩
theorem FInv.store(x:FInv Γ ρ σ t){i:Nat}{n:Str}{v:Value}{l:Lv}{h':Heap}{k:Tok}{α':Al}(hl:isLoc Γ.c i n=true)(hN:h'.Ns Γ.env.locals (putM t.m n v))(hs:Heap.SameBut Γ.env.locals t.s.heap h')
  (hα:∀j,j≠i→α' j=t.α j) (hv:LvRep ⟨t.s,t.g,α',t.m⟩ i v l) (ho:∀a,α' i=some a→(∃xs,l=.o xs)∧Free t.g a∧Live t.s.heap a∧(∀j,j≠i→t.α j≠some a)∧¬Priv Γ.env a)
  (st:Step Γ t₀ t) (hn:∀a,α' i=some a→t₀.s.heap.get? a=none∧i≠0):FInv Γ (ρ.put i l) σ (t.put h' k α' n v)∧Step Γ t₀ (t.put h' k α' n v):=by
 obtain⟨hi,hk⟩:=loc_ hl
 rw[Γ.K]at hk
 obtain⟨p1,p2,p3⟩:=x.pr Γ.env.locals (.inl rfl)
 have kp:∀a,a≠Γ.env.locals→Keep t.s.heap h' a:=fun a ha o e=>(hs.2 a ha).trans e
 have lv:∀a,Live t.s.heap a→Live h' a:=fun a ha=>by
  by_cases e:a=Γ.env.locals
  ·obtain⟨o,_,_,ho,_⟩:=hN
   exact e▸⟨o,ho⟩
  ·obtain⟨o,ho⟩:=ha
   exact⟨o,kp a e o ho⟩
 have nl:∀{g a},(Free g a∧¬Priv Γ.env a)→a≠Γ.env.locals:=fun h e=>h.2 (.inl e)
 refine⟨x.at i (x.h.same rfl rfl fun a ha=>kp a (by rintro rfl;exact ha.elim p1.i fun q=>q p1.f)) hN (.refl _) (fun j l hj e=>(ρ.get_ne i _ hj).symm.trans e) (fun j ys hj e=>(ρ.get_ne i _ hj).trans e) (fun l' e=>?_) (fun j n' u hj hj' q=>?_) hα (fun a e=>?_) (fun j a hj e=>kp a fun q=>p2 j (q▸e)) (fun _ h _ _=>h) lv,
  ⟨st.le,fun a h=>lv a (st.live a h),fun a q1 q2 q3 o e=>kp a q3 o (st.kept a q1 q2 q3 o e),st.newi,fun j a e=>?_,st.newf⟩⟩
 ·obtain rfl:l=l':=Ql ((ρ.get_self i l).symm.trans e)
  refine⟨n,v,hi,.loc hk (if_pos rfl),?_⟩
  induction hv with
  |v h=>exact .v h
  |o a e1 e2 h=>exact .o a e1 e2 (h.mono (.refl _) (kp a (nl ((ho a e2).2.imp id fun q=>q.2.2))))
 ·induction q with
  |loc q1 q2=>exact .loc q1 ((if_neg (idx_ne Γ hi hj' hj)).trans q2)
  |cell c q1 q2 q3=>exact .cell c q1 q2 (IsCell_keep (kp c (Γ.ok.cloc _ _ q2)) q3)
 ·obtain⟨⟨xs,rfl⟩,q2,q3,q4⟩:=ho a e
  exact⟨⟨xs,ρ.get_self i _⟩,q2,lv a q3,q4⟩
 ·by_cases hj:j=i
  ·subst hj;exact .inr (hn a e)
  ·exact st.newo j a ((hα j hj).symm.trans e)
theorem FInv.upd(x:FInv Γ ρ σ t){i:Nat}{xs ys:List V}{a:Addr}{h':Heap}{k:Tok}(hx:ρ.get i=some (.o xs))(ha:t.α i=some a)(hp:PList t.g h' a ys)(hs:Heap.SameBut a t.s.heap h'):
  FInv Γ (ρ.put i (.o ys)) σ ⟨{t.s with heap:=h',toks:=k},t.g,t.α,t.m⟩∧Step Γ t ⟨{t.s with heap:=h',toks:=k},t.g,t.α,t.m⟩:=by
 obtain⟨n,b,h1,h2,h3,h4⟩:=x.own hx
 obtain rfl:a=b:=Ql (ha.symm.trans h3)
 obtain⟨_,hf,hl⟩:=x.ow i a ha
 have kp:∀b,b≠a→Keep t.s.heap h' b:=fun b hb o e=>(hs.2 b hb).trans e
 have np:∀b,Priv Γ.env b→b≠a:=fun b hb e=>(x.pr b hb).2.1 i (e▸ha)
 have lv:∀b,Live t.s.heap b→Live h' b:=fun b hb=>by
  by_cases e:b=a
  ·exact e▸hp.live
  ·obtain⟨o,ho⟩:=hb
   exact⟨o,kp b e o ho⟩
 have sm:∀{n v},SlotIs Γ.env t n v→SlotIs Γ.env ⟨{t.s with heap:=h',toks:=k},t.g,t.α,t.m⟩ n v:=fun h=>h.mono (t:=t) rfl fun b hb=>kp b (np b hb)
 refine⟨x.at i (x.h.same rfl rfl fun b hb=>kp b (by rintro rfl;exact hb.elim hf.i fun q=>q hf.f)) (Ns_keep (kp _ (np _ (.inl rfl))) x.ns) (.refl _) (fun j l hj e=>(ρ.get_ne i _ hj).symm.trans e) (fun j zs hj e=>(ρ.get_ne i _ hj).trans e) (fun l e=>?_) (fun _ _ _ _ _ q=>sm q) (fun _ _=>rfl) (fun b e=>?_)
  (fun j b hj e=>kp b fun q=>hj (x.owi j i b e (q▸ha))) (fun _ h _ _=>h) lv,⟨.refl _,lv,fun b _ q2 _=>kp b fun e=>q2 i (e▸ha),fun _ q=>.inl q,fun _ _ e=>.inl e,fun _ _ e=>.inl e⟩⟩
 ·obtain rfl:.o ys=l:=Ql ((ρ.get_self i _).symm.trans e)
  exact⟨n,_,h1,sm h2,.o a rfl ha hp⟩
 ·obtain rfl:a=b:=Ql (ha.symm.trans e)
  exact⟨⟨ys,ρ.get_self i _⟩,hf,hp.live,fun j hj e=>hj (x.owi j i a e ha),fun q=>np a q rfl⟩
inductive LentR(g:Gh)(a:Addr)(h:Heap)(g':Gh)(h':Heap):Option (List V)→Prop
 |own {ys}:Free g' a→PList g' h' a ys→FStep NoP g (al1 a) h g' (al1 a) h'→LentR g a h g' h' (some ys)
 |gone:FStep NoP g (al1 a) h g' Al.none h'→LentR g a h g' h' none
theorem FInv.lent(x:FInv Γ ρ σ t){i:Nat}{xs:List V}{a:Addr}{o:Option (List V)}{g':Gh}{s':Shared}(hx:ρ.get i=some (.o xs))(ha:t.α i=some a)(hi:HInv X.X g' σ' s')(hl:LentR t.g a t.s.heap g' s'.heap o):
  ∃α',FInv Γ (outRho ρ i o) σ' ⟨s',g',α',t.m⟩∧Step Γ t ⟨s',g',α',t.m⟩:=by
 obtain⟨n,b,h1,h2,h3,h4⟩:=x.own hx
 obtain rfl:a=b:=Ql (ha.symm.trans h3)
 have np:∀b,Priv Γ.env b→b≠a:=fun b hb e=>(x.pr b hb).2.1 i (e▸ha)
 have al:∀{b},b≠a→∀j,al1 a j≠some b:=fun hb j e=>hb (al1_some e).2
 have main:∀{α'':Al},FStep NoP t.g (al1 a) t.s.heap g' α'' s'.heap→∀α',(∀j,j≠i→α' j=t.α j)→(∀b,α' i=some b→b=a)→∀ρ',(∀j l,j≠i→ρ'.get j=some l→ρ.get j=some l)→(∀j ys,j≠i→ρ.get j=some (.o ys)→ρ'.get j=some (.o ys))→
   (∀l,ρ'.get i=some l→∃ys,l=.o ys∧α' i=some a∧PList g' s'.heap a ys)→(∀b,α' i=some b→(∃ys,ρ'.get i=some (.o ys))∧Free g' a)→FInv Γ ρ' σ' ⟨s',g',α',t.m⟩∧Step Γ t ⟨s',g',α',t.m⟩:=by
  intro α'' st α' q1 q2 ρ' q3 q4 q5 q6
  have kp:∀b,b∉t.g.ι→b≠a→Keep t.s.heap s'.heap b:=fun b hb hne=>st.kept b hb (al hne) fun e=>e
  have sm:∀{n v},SlotIs Γ.env t n v→SlotIs Γ.env ⟨s',g',α',t.m⟩ n v:=fun h=>h.mono (t:=t) rfl fun b hb=>kp b (x.priv hb).i (np b hb)
  refine⟨x.at i hi (Ns_keep (kp _ (x.priv (.inl rfl)).i (np _ (.inl rfl))) x.ns) st.le q3 q4 (fun l e=>?_) (fun _ _ _ _ _ q=>sm q) q1 (fun b e=>?_) (fun j b hj e=>kp b (x.ow j b e).2.1.i fun q=>hj (x.owi j i b e (q▸ha))) (fun b hf hl hne=>st.free hf hl (al fun e=>hne xs hx (e▸ha))) st.live,
   ⟨st.le,st.live,fun b w1 w2 _=>kp b w1 fun e=>w2 i (e▸ha),st.newi,fun j b e=>?_,fun b p e=>(st.newf b p e).imp id fun q=>q.imp (fun⟨j,q⟩=>⟨i,(al1_some q).2▸ha⟩) id⟩⟩
  ·obtain⟨ys,rfl,w1,w2⟩:=q5 l e
   exact⟨n,_,h1,sm h2,.o a rfl w1 w2⟩
  ·obtain rfl:=q2 b e
   obtain⟨w1,w2⟩:=q6 b e
   exact⟨w1,w2,st.live b (x.ow i b ha).2.2,fun j hj e=>hj (x.owi j i b e ha),fun q=>np b q rfl⟩
  ·by_cases hj:j=i
   ·subst hj;exact .inl (q2 b e▸ha)
   ·exact .inl ((q1 j hj).symm.trans e)
 induction hl with
 |own hf hp st=>
  refine⟨t.α,main st _ (fun _ _=>rfl) (fun b e=>Ql (e.symm.trans ha)) _ (fun j l hj e=>(ρ.get_ne i _ hj).symm.trans e) (fun j zs hj e=>(ρ.get_ne i _ hj).trans e) (fun l e=>?_) fun b e=>⟨⟨_,ρ.get_self i _⟩,hf⟩⟩
  obtain rfl:=Ql ((ρ.get_self i _).symm.trans e)
  exact⟨_,rfl,ha,hp⟩
 |gone st=>
  have no:∀b,t.α.drop i i≠some b:=fun b e=>(Al.drop_some e).1 rfl
  refine⟨t.α.drop i,main st _ (fun j hj=>Al.drop_ne hj) (fun b e=>(no b e).elim) _ (fun j l hj e=>(Rho.del_ne ρ hj).symm.trans e) (fun j ys hj e=>(Rho.del_ne ρ hj).trans e) (fun l e=>nomatch (Rho.del_self ρ i).symm.trans e) fun b e=>(no b e).elim⟩
end
structure Room(A:Around)(n:Nat):Prop where
 hd:A.handled=none
 dep:A.depth+2*n≤900
 uni:A.units+30*n+200≤cLine
structure IsFn(X:Wd)(f:Nat):Prop where
 ex:∃o fd,X.X.base.get? f=some o∧o.data=.func fd
structure Runs(X:Wd)(d f:Nat)(vs:List V)(σ:Sg)(r:V × Sg):Prop where
 fn:IsFn X f
 run:∀A s g us,Room A d→HInv X.X g σ s→VReps g us vs→codeAny (model pw X.X.w) A (.call (.ref f) ⟨us,[]⟩) (fun res s'=>∃u,res=.ok (.ret u)∧PH X.X g s.heap r u s') s
structure RunsL(X:Wd)(d f:Nat)(vs ys:List V)(σ:Sg)(r:V × Option (List V) × Sg):Prop where
 fn:IsFn X f
 run:∀A s g us a,Room A d→HInv X.X g σ s→VReps g us vs→Free g a→PList g s.heap a ys→
  codeAny (model pw X.X.w) A (.call (.ref f) ⟨us++[.ref a],[]⟩) (fun res s'=>∃u g',res=.ok (.ret u)∧HInv X.X g' r.2.2 s'∧VRep g' u r.1∧LentR g a s.heap g' s'.heap r.2.1) s
noncomputable def argRho:Nat→List V→Rho
 |n,x::xs=>(n,.v x)::argRho (n+1) xs
 |_,[]=>[]
theorem arg_get:∀{xs:List V}{k i:Nat}{l:Lv},(argRho k xs).get i=some l→∃j x,i=k+j∧xs[j]?=some x∧l=.v x:=by
 intro xs
 induction xs with
 |nil=>exact fun h=>non h
 |cons x xs ih=>
  intro k i l h
  cases hb:Nat.beq i k with
  |true=>exact⟨0,x,Qy hb,rfl,(Ql ((Rho.get_cons (k,.v x) _ hb).symm.trans h)).symm⟩
  |false=>
   obtain⟨j,y,h1,h2,h3⟩:=ih ((Rho.get_cons (k,.v x) _ hb).symm.trans h)
   exact⟨j+1,y,by lia,h2,h3⟩
theorem bindL_ne{kf:Str→Option NameKind}{n:Str}:∀{r:List (Str × Value)}{m:Str→Option Value},n∉r.map (·.1)→bindL kf r m n=m n:=by
 intro r
 induction r with
 |nil=>exact fun _=>rfl
 |cons p r ih=>
  intro m hr
  have h1:n≠p.1:=fun e=>hr (e▸Qe)
  refine(ih fun e=>hr (Qg _ e)).trans ?_
  by_cases h:kf p.1=some .local
  ·exact(congrFun (if_pos h) n).trans (if_neg h1)
  ·exact congrFun (if_neg h) n
theorem bindC_ne{kf:Str→Option NameKind}{n:Str}:∀{r:List (Str × Value)}{m:Str→Option Value},n∉r.map (·.1)→bindC kf r m n=m n:=by
 intro r
 induction r with
 |nil=>exact fun _=>rfl
 |cons p r ih=>
  intro m hr
  have h1:n≠p.1:=fun e=>hr (e▸Qe)
  refine(ih fun e=>hr (Qg _ e)).trans ?_
  by_cases h:kf p.1=some .local
  ·exact congrFun (if_pos h) n
  ·exact(congrFun (if_neg h) n).trans (if_neg h1)
theorem bindL_get{kf:Str→Option NameKind}{n:Str}{v:Value}(hk:kf n=some .local):∀{bs:List (Str × Value)}{m:Str→Option Value},(bs.map (·.1)).Nodup→(n,v)∈bs→bindL kf bs m n=some v:=by
 intro bs
 induction bs with
 |nil=>exact fun _ h=>nomatch h
 |cons p r ih=>
  intro m hn hm
  obtain⟨hn1,hn2⟩:=QU.mp hn
  rcases Qt.mp hm with rfl|hm
  ·exact(bindL_ne hn1).trans ((congrFun (if_pos hk) n).trans (if_pos rfl))
  ·exact ih hn2 hm
theorem bindC_get{kf:Str→Option NameKind}{n:Str}{v:Value}(hk:kf n≠some .local):∀{bs:List (Str × Value)}{m:Str→Option Value},(bs.map (·.1)).Nodup→(n,v)∈bs→bindC kf bs m n=some v:=by
 intro bs
 induction bs with
 |nil=>exact fun _ h=>nomatch h
 |cons p r ih=>
  intro m hn hm
  obtain⟨hn1,hn2⟩:=QU.mp hn
  rcases Qt.mp hm with rfl|hm
  ·exact(bindC_ne hn1).trans ((congrFun (if_neg hk) n).trans (if_pos rfl))
  ·exact ih hn2 hm
theorem zip_get{α β:Type}:∀{l:List α}{r:List β}{i:Nat}{a:α}{b:β},l[i]?=some a→r[i]?=some b→(a,b)∈l.zip r:=by
 intro l
 induction l with
 |nil=>exact fun h=>non h
 |cons x l ih=>
  intro r i a b h1 h2
  cases r with
  |nil=>exact non h2
  |cons y r=>
   induction i with
   |zero=>exact Ql h1▸Ql h2▸Qe
   |succ i=>exact Qg _ (ih h1 h2)
noncomputable def flV:Flow→Value
 | .ret v=>v
 |_=>.none
section
variable {X:Wd}{d f:Nat}{F:Fn}{σ σ₁:Sg}{o:Obj}{fd:FuncData}{body:List Stmt}{A:Around}
noncomputable def enter(R:Room A (d+1))(hF:FnOK X.X f F)(ho:FObj X.X f F o fd body)(n:Nat)(hn:(∀x c,(callEnvC fd n f).cells.lookup x=some c→c≠(callEnvC fd n f).locals)∧∀x y c,(callEnvC fd n f).cells.lookup x=some c→(callEnvC fd n f).cells.lookup y=some c→x=y):Fc X d where
 c:=mt fd.scope F
 env:=callEnvC fd n f
 A:=A.deeper (callEnvC fd n f)
 G:=GOK.mt X.B _ _
 K:=rfl
 hd:=R.hd
 dep:=by have:=R.dep;show A.depth+1+1+2*d≤900;lia
 uni:=by have:=R.uni;show A.units+3+30*d+220≤cLine;lia
 ok:=⟨ho.ki,ho.gl,ho.bl,hF.nodup,hn.1,hn.2,hF.dbg⟩
theorem body_run(hc:code f=some F){vals:List Value}{s:Shared}{g:Gh}{α:Al}{ρ:Rho}{r:Fl × Rho × Sg}(R:Room A (d+1))(I:HInv X.X g σ s)(hl:vals.length=F.np)(hb:OkB X d F.body ρ σ r)
  (hs:∀i l,ρ.get i=some l→∃n v,(F.vars.map Str.ofString)[i]?=some n∧(n,v)∈F.pnames.zip vals∧LvRep ⟨s,g,α,fun _=>none⟩ i v l)
  (h0:∀i a,α i=some a→(∃xs,ρ.get i=some (.o xs))∧Free g a∧Live s.heap a) (hi:∀i j a,α i=some a→α j=some a→i=j) {Q:Value→Shared→Prop}
  (k:∀(Γ:Fc X d) fl t',FInv Γ r.2.1 r.2.2 t'→FlRep t'.g fl r.1→FStep NoP g α s.heap t'.g t'.α t'.s.heap→Q (flV fl) t'.s):
  codeAny (model pw X.X.w) A (.call (.ref f) ⟨vals,[]⟩) (fun res s'=>∃u,res=.ok (.ret u)∧Q u s') s:=by
 have hF:=X.F f F hc
 obtain⟨o,fd,body,O⟩:=hF.obj
 have kB:=I.keepsBase
 have hzl:(F.pnames.zip vals).map (·.1)=F.pnames:=List.map_fst_zip (by rw[hF.plen,hl];exact Qd _)
 refine codeAny_call_cells (by have:=R.dep;show A.depth < 1000;lia) (kB _ _ O.ob) O.da (Heap.NoLimit.keeps X.B.nolim kB) (O.cr.keeps kB) O.bo (O.bi vals hl) O.cl (fun x hx=>?_) (fun s₁ hin=>?_) O.co O.ge O.ki
 ·exact(O.pn x.1 (List.of_mem_zip hx).1).imp id fun h=>⟨h.1,h.2 _⟩
 have keep:∀b,Keep s.heap s₁.heap b:=hin.toInCall.keep
 have dead:∀b,Priv (callEnvC fd s.heap.objs.size f) b→s.heap.get? b=none:=fun b hb=>by
  have hle:s.heap.objs.size≤b:=by
   rcases hb with rfl|⟨n,hn⟩
   ·exact hin.toInCall.fresh
   ·exact Qf hin.toInCall.fresh (Nat.le_of_lt (hin.above n b (mem_of_lookup hn)))
  cases hc:s.heap.get? b with
  |none=>rfl
  |some o=>exact absurd (Heap.lt_size hc) (Nat.not_lt.mpr hle)
 have I₁:HInv X.X g σ s₁:=by
  obtain⟨h',tk,rfl⟩:=hin.toInCall.same
  exact I.grown keep
 have Γok:(∀x c,(callEnvC fd s.heap.objs.size f).cells.lookup x=some c→c≠(callEnvC fd s.heap.objs.size f).locals)∧∀x y c,(callEnvC fd s.heap.objs.size f).cells.lookup x=some c→(callEnvC fd s.heap.objs.size f).cells.lookup y=some c→x=y:=
  ⟨fun x c h=>Nat.ne_of_gt (hin.above x c (mem_of_lookup h)),fun x y c h1 h2=>name_of_addr hin.apart (mem_of_lookup h1) (mem_of_lookup h2)⟩
 have J:FInv (enter R hF O s.heap.objs.size Γok) ρ σ ⟨s₁,g,α,bindL (callEnvC fd s.heap.objs.size f).kindOf (F.pnames.zip vals) fun _=>none⟩:=by
  refine⟨I₁,hin.toInCall.ns,fun i l e=>?_,fun i a e=>?_,hi,fun a h=>?_⟩
  ·obtain⟨n,v,h1,h2,h3⟩:=hs i l e
   refine⟨n,v,h1,?_,?_⟩
   ·rcases O.pn n (List.of_mem_zip h2).1 with hl|⟨hl,hc⟩
    ·exact .loc hl (bindL_get hl (by rw[hzl];exact hF.pnd) h2)
    ·obtain⟨cl,hcl⟩:=Option.isSome_iff_exists.mp (hc (s.heap.objs.size+1))
     exact .cell cl (.inl hl) hcl (bindC_get (kf:=(callEnvC fd s.heap.objs.size f).kindOf) (fun e=>nomatch hl.symm.trans e) (by rw[hzl];exact hF.pnd) h2▸hin.cell n cl hcl)
   ·induction h3 with
    |v h=>exact .v h
    |o a e1 e2 h=>exact .o a e1 e2 (h.mono (.refl _) (keep a))
  ·obtain⟨h1,h2,o,h3⟩:=h0 i a e
   exact⟨h1,h2,o,keep a o h3⟩
  ·have hd:=dead a h
   refine⟨⟨(I.fresh hd).2,(I.fresh hd).1⟩,fun i e=>dead_lv hd (h0 i a e).2.2,?_⟩
   rcases h with rfl|⟨n,h⟩
   ·obtain⟨o,_,_,q,_⟩:=hin.toInCall.ns
    exact⟨o,q⟩
   ·obtain⟨o,q,_⟩:=hin.cell n a h
    exact⟨o,q⟩
 have dk:∀a,s₁.heap.get? a=none→s.heap.get? a=none:=fun a h=>by
  cases hc:s.heap.get? a with
  |none=>rfl
  |some o=>exact nomatch h.symm.trans (keep a o hc)
 refine QY (hb.go (Γ:=enter R hF O s.heap.objs.size Γok) O.ok J fun fl t' I' R' st=>?_) (fun fl s' q=>⟨_,rfl,q⟩) fun _ _ h=>h.elim
 exact k _ fl t' I' R' ⟨st.le,fun a ⟨o,e⟩=>st.live a ⟨o,keep a o e⟩,fun a h1 h2 _ o e=>st.kept a h1 h2 (fun hp=>nomatch (dead a (.inl hp)).symm.trans e) o (keep a o e),fun a h=>(st.newi a h).imp id (dk a),fun i a h=>(st.newo i a h).imp id fun q=>⟨dk a q.1,q.2⟩,fun a p e=>(st.newf a p e).imp id fun q=>q.imp id (dk a)⟩
noncomputable def retV(f:Fl):Option V:=@Fl.casesOn (fun _=>Option V) f (some .none) none none some
theorem retV_rep{g:Gh}{f:Flow}{fl:Fl}{v:V}(h:FlRep g f fl)(e:retV fl=some v):VRep g (flV f) v:=by
 induction h with
 |next=>exact Ql e▸.none
 |brk=>exact non e
 |cont=>exact non e
 |ret r=>exact Ql e▸r
theorem IsFn.of(hc:code f=some F):IsFn X f:=by
 obtain⟨o,fd,body,O⟩:=(X.F f F hc).obj
 exact⟨o,fd,O.ob,O.da⟩
theorem pn_get{F:Fn}(hF:F.lends=false){i:Nat}(h:i < F.np):F.pnames[i]?=(F.vars.map Str.ofString)[i]?:=by
 unfold Fn.pnames
 rw[hF]
 show(List.map _ (List.take _ _))[i]?=_
 rw[QJ,List.getElem?_take,if_pos h,QJ]
theorem pnl_len{F:Fn}(h1:F.np≤F.vars.length):(List.map Str.ofString (List.take (F.np - 1) (List.drop 1 F.vars))).length=F.np - 1:=by
 rw[Qr,List.length_take,List.length_drop]
 exact Nat.min_eq_left (Nat.sub_le_sub_right h1 1)
theorem pnl_get{F:Fn}(hF:F.lends=true){i:Nat}(h:i+1 < F.np)(h1:F.np≤F.vars.length):F.pnames[i]?=(F.vars.map Str.ofString)[1+i]?:=by
 have h:=Nat.lt_sub_of_add_lt h
 unfold Fn.pnames
 rw[hF]
 show(List.map _ (List.take _ _)++_)[i]?=_
 rw[Qp (Nat.lt_of_lt_of_eq h (pnl_len h1).symm),QJ,List.getElem?_take,if_pos h,List.getElem?_drop,QJ]
theorem pnl_last{F:Fn}(hF:F.lends=true)(h1:F.np≤F.vars.length):F.pnames[F.np - 1]?=(F.vars.map Str.ofString)[0]?:=by
 unfold Fn.pnames
 rw[hF]
 show(List.map _ (List.take _ _)++_)[F.np - 1]?=_
 rw[List.getElem?_append_right (QT (pnl_len h1)),pnl_len h1,Nat.sub_self,QJ,List.getElem?_take,if_pos Nat.one_pos,QJ]
theorem at_of{α:Type}{l:List α}{i:Nat}(h:i < l.length):∃a,l[i]?=some a:=⟨_,Qj h⟩
theorem r_fn(hc:code f=some F){vs:List V}{v:V}{r:Fl × Rho × Sg}(hl:F.lends=false)(hn:vs.length=F.np)(hb:OkB X d F.body (argRho 0 vs) σ r)(hv:retV r.1=some v):Runs X (d+1) f vs σ (v,r.2.2):=by
 have hF:=X.F f F hc
 refine⟨.of hc,fun A s g us R I hr=>body_run hc (α:=Al.none) R I (hr.length.trans hn) hb (fun i l e=>?_) (fun _ _ e=>non e) (fun _ _ _ e=>non e) fun Γ fl t' I' R' st=>?_⟩
 ·obtain⟨j,x,rfl,h2,rfl⟩:=arg_get e
  rw[Nat.zero_add]
  have hj:j < F.np:=hn▸(Qc.mp h2).1
  obtain⟨u,h3,h4⟩:=hr.get h2
  obtain⟨n,h5⟩:=at_of (l:=F.vars.map Str.ofString) (by rw[Qr];exact QE hj hF.vlen)
  exact⟨n,u,h5,zip_get ((pn_get hl hj).trans h5) h3,.v h4⟩
 ·exact⟨t'.g,I'.h,retV_rep R' hv,⟨st.le,st.live,st.kept,st.newi,fun _ _ e=>(non e),st.newf⟩⟩
noncomputable def ownOf(ρ:Rho):Option (List V):=(ρ.get 0).bind fun l=>@Lv.casesOn (fun _=>Option (List V)) l (fun _=>none) some
theorem ownOf_some{ρ:Rho}{ys:List V}(h:ownOf ρ=some ys):ρ.get 0=some (.o ys):=by
 obtain⟨l,h1,h2⟩:=Option.bind_eq_some_iff.mp h
 induction l with
 |v x=>exact non h2
 |o xs=>exact h1.trans (congrArg (fun x=>some (Lv.o x)) (Ql h2))
theorem r_fnL(hc:code f=some F){vs ys:List V}{v:V}{r:Fl × Rho × Sg}(hl:F.lends=true)(hn:vs.length+1=F.np)(hb:OkB X d F.body ((0,.o ys)::argRho 1 vs) σ r)(hv:retV r.1=some v):RunsL X (d+1) f vs ys σ (v,ownOf r.2.1,r.2.2):=by
 have hF:=X.F f F hc
 have hle:=hF.vlen
 refine⟨.of hc,fun A s g us a R I hr hf hp=>?_⟩
 have hul:us.length=vs.length:=hr.length
 refine codeAny_mono (body_run hc (α:=al1 a) R I (vals:=us++[.ref a]) (by rw[Qb,hul];exact hn) hb (fun i l e=>?_) (fun i b e=>?_) (fun i j b e e'=>(al1_some e).1.trans (al1_some e').1.symm) (Q:=fun u s'=>∃g',HInv X.X g' r.2.2 s'∧VRep g' u v∧LentR g a s.heap g' s'.heap (ownOf r.2.1)) fun Γ fl t' I' R' st=>?_) fun res s' q=>?_
 ·cases hb:Nat.beq i 0 with
  |true=>
   obtain rfl:=Qy hb
   obtain rfl:=Ql ((Rho.get_cons (0,.o ys) _ hb).symm.trans e)
   obtain⟨n,h5⟩:=at_of (l:=F.vars.map Str.ofString) (i:=0) (by rw[Qr];lia)
   refine⟨n,.ref a,h5,zip_get (i:=F.np - 1) ((pnl_last hl hle).trans h5) ?_,.o a rfl rfl hp⟩
   rw[← hn,Nat.add_sub_cancel,← hul,Qx]
  |false=>
   obtain⟨j,x,rfl,h2,rfl⟩:=arg_get ((Rho.get_cons (0,.o ys) _ hb).symm.trans e)
   have hj:j < vs.length:=(Qc.mp h2).1
   obtain⟨u,h3,h4⟩:=hr.get h2
   obtain⟨n,h5⟩:=at_of (l:=F.vars.map Str.ofString) (i:=1+j) (by rw[Qr];lia)
   exact⟨n,u,h5,zip_get ((pnl_get hl (by lia) hle).trans h5) ((Qp (hul▸hj)).trans h3),.v h4⟩
 ·obtain⟨rfl,rfl⟩:=al1_some e
  exact⟨⟨ys,rfl⟩,hf,hp.live⟩
 ·refine⟨t'.g,I'.h,retV_rep R' hv,?_⟩
  cases ho:ownOf r.2.1 with
  |none=>exact .gone ⟨st.le,st.live,st.kept,st.newi,fun _ _ e=>(non e),st.newf⟩
  |some zs=>
   obtain⟨n,b,h1,h2,h3,h4⟩:=I'.own (ownOf_some ho)
   obtain rfl:b=a:=(st.newo 0 b h3).elim (fun h=>(al1_some h).2) fun h=>absurd rfl h.2
   exact .own (I'.ow 0 b h3).2.1 h4 ⟨st.le,st.live,st.kept,st.newi,fun i c e=>by obtain⟨rfl,rfl⟩:=al1_some e;exact .inl rfl,st.newf⟩
 ·obtain⟨u,e,g',h⟩:=q
  exact⟨u,g',e,h⟩
end
theorem any_plain{pos:Pos}{env:Env}:∀{xs:List Expr},(∀x∈xs,notStar x=true)→(backTo pos (starEach xs env)).any (·.1)=false:=by
 intro xs
 induction xs with
 |nil=>exact fun _=>rfl
 |cons x r ih=>
  intro h
  rw[starEach_cons (h x Qe)]
  exact ih fun y hy=>h y (Qg _ hy)
theorem evalArgs_all{M:Model}{A:Around}{E:Value→Shared→Prop}{s:Shared}{f:Value}{env:Env}{pos:Pos}{xs:List Expr}{Q:Args→Shared→Prop}(hp:∀x∈xs,notStar x=true)
  (h:wpAny M A (spliced (backTo pos (starEach xs env))) (fun vs s'=>Q ⟨vs,[]⟩ s') E s):wpAny M A (evalArgs f true (backTo pos (starEach xs env)) []) Q E s:=by
 induction xs with
 |nil=>
  show wpAny M A (evalArgs f true [] []) Q E s
  unfold evalArgs
  refine QV (QV (m:=spliced []) (QY h (fun vs s' q=>?_) fun _ _ q=>q))
  exact QW (wpAny_holding (QV (QW (QV (QW (QW q))))))
 |cons x r=>
  rw[starEach_cons (hp x Qe)]at h⊢
  exact evalArgs_plain h
theorem rfi{a b:Addr}(h:some (Value.ref a)=some (Value.ref b)):a=b:=by injection h with h;injection h
theorem sij{α:Type}{a b:α}(h:some a=some b):a=b:=Ql h
section
variable {X:Wd}{d f:Nat}{Γ:Fc X d}{ρ ρ₁ ρ₂ ρ₃:Rho}{σ σ₁ σ₂ σ₃:Sg}{t t₁ t₂:St}
theorem Fc.room(Γ:Fc X d):Room Γ.A d:=⟨Γ.hd,by have:=Γ.dep;lia,by have:=Γ.uni;lia⟩
theorem call_go{vs:List V}{v:V}{us:List Value}(k:Runs X d f vs σ₁ (v,σ₂))(I:FInv Γ ρ σ₁ t₁)(m:t₁.m=t.m)(st:Step Γ t t₁)(R:VReps t₁.g us vs):Wp Γ (call (.ref f) us []) (PE Γ t (v,ρ,σ₂)) t₁.s:=
 wpAny_call (codeAny_mono (k.run Γ.A _ _ us Γ.room I.h R) fun res s' q=>by
  obtain⟨u,rfl,q⟩:=q
  exact PE.postp I m st q)
theorem r_call{es:Es}{vs:List V}{v:V}(h:OkL X d es ρ σ (vs,ρ₁,σ₁))(k:Runs X d f vs σ₁ (v,σ₂)):OkE X d (.call f es) ρ σ (v,ρ₁,σ₂):=by
 intro Γ x t hx I
 replace hx:=callN_ hx;obtain⟨n,p,l,q,rfl,hx⟩:=hx
 obtain⟨q1,q2⟩:=band hx
 obtain⟨o,fd,hb,hd⟩:=k.fn.ex
 refine wpAny_Call_Name_kw (wp_glob I q1 fun u hu=>?_)
 cases hu
 exact callWith_function (o:=o) (fd:=fd) (evalArgs_all (okEs_star es q2) (h.go q2 I fun us t₁ I₁ m₁ R₁ s₁=>⟨⟨I₁.h.keepsBase _ _ hb,hd⟩,call_go k I₁ m₁ s₁ R₁⟩))
inductive PM(Γ:Fc X d)(x:Nat)(t:St)(r:List V × Rho × Sg):List Value→Shared→Prop
 |mk {us a}(t':St):FInv Γ r.2.1 r.2.2 t'→t'.m=t.m→VReps t'.g us r.1→t'.α x=some a→Step Γ t t'→PM Γ x t r (us++[.ref a]) t'.s
noncomputable def OkM(X:Wd)(d:Nat)(es:Es)(x:Nat)(ρ:Rho)(σ:Sg)(r:List V × Rho × Sg):Prop:=∀(Γ:Fc X d) xs p t,okEsL Γ.c es x xs=true→FInv Γ ρ σ t→Wp Γ (spliced (backTo p (starEach xs Γ.env))) (PM Γ x t r) t.s
theorem m_nil{x:Nat}{ys:List V}(e:ρ.get x=some (.o ys)):OkM X d .nil x ρ σ ([],ρ,σ):=by
 intro Γ xs p t hx I
 obtain⟨h1,h2⟩:=band hx
 obtain⟨y,ey,h3⟩:=hd_ h1
 obtain⟨n,q,rfl,h4⟩:=nam_ h3
 obtain⟨n',a,w1,w2,w3,_⟩:=I.own e
 obtain rfl:=sij ((QX h4).symm.trans w1)
 rw[ey,emp h2]
 exact spliced_more (wp_slot I w1 w2 (spliced_none (.mk (us:=[]) t I rfl .nil w3 (.refl ..)))) rfl
theorem m_cons{e:E}{es:Es}{x:Nat}{v:V}{vs:List V}(h1:OkE X d e ρ σ (v,ρ₁,σ₁))(h2:OkM X d es x ρ₁ σ₁ (vs,ρ₂,σ₂)):OkM X d (.cons e es) x ρ σ (v::vs,ρ₂,σ₂):=by
 intro Γ xs p t hx I
 obtain⟨h3,q3⟩:=band hx
 obtain⟨y,ey,h4⟩:=hd_ h3
 obtain⟨q1,q2⟩:=band h4
 rw[ey]
 exact spliced_more (h1.go q1 I fun u t₁ I₁ m₁ r₁ s₁=>wpm (h2 Γ _ p _ q3 I₁) fun us s q=>PM.rec (r:=(vs,ρ₂,σ₂)) (motive:=fun us s _=>PM Γ x t (v::vs,ρ₂,σ₂) (u::us) s) (fun{us a} t₂ I₂ m₂ r₂ a₂ s₂=>.mk (us:=u::us) t₂ I₂ (m₂.trans m₁) (.cons (r₁.mono s₂.le) r₂) a₂ (s₁.trans s₂)) q) (starEach_cons q2)
theorem okEsL_star{c:Mt}:∀(es:Es){i:Nat}{xs:List Expr},okEsL c es i xs=true→∀x∈xs,notStar x=true
 | .nil,_,_,h,x,hx=>by
  obtain⟨h1,h2⟩:=band h
  obtain⟨y,ey,h3⟩:=hd_ h1
  obtain⟨n,q,rfl,_⟩:=nam_ h3
  rw[ey,emp h2]at hx
  exact Qk.mp hx▸rfl
 | .cons _ es,_,_,h,x,hx=>by
  obtain⟨h3,q3⟩:=band h
  obtain⟨y,ey,h4⟩:=hd_ h3
  rw[ey]at hx
  rcases Qt.mp hx with rfl|hx
  ·exact(band h4).2
  ·exact okEsL_star es q3 x hx
theorem r_callL{es:Es}{x:Nat}{vs ys:List V}{v:V}{o:Option (List V)}(h:OkM X d es x ρ σ (vs,ρ₁,σ₁))(e:ρ₁.get x=some (.o ys))(k:RunsL X d f vs ys σ₁ (v,o,σ₂)):OkE X d (.callL f es x) ρ σ (v,outRho ρ₁ x o,σ₂):=by
 intro Γ y t hx I
 replace hx:=callN_ hx;obtain⟨n,p,l,q,rfl,hx⟩:=hx
 obtain⟨q1,q2⟩:=band hx
 obtain⟨ob,fd,hb,hd⟩:=k.fn.ex
 refine wpAny_Call_Name_kw (wp_glob I q1 fun u hu=>?_)
 cases hu
 refine callWith_function (o:=ob) (fd:=fd) (evalArgs_all (okEsL_star es q2) (wpm (h Γ l _ t q2 I) fun us s q=>?_))
 induction q with
 |mk t₁ I₁ m₁ R₁ a₁ s₁=>
 obtain⟨_,b,_,_,w3,w4⟩:=I₁.own e
 obtain rfl:=sij (a₁.symm.trans w3)
 refine⟨⟨I₁.h.keepsBase _ _ hb,hd⟩,wpAny_call (codeAny_mono (k.run Γ.A _ _ _ _ Γ.room I₁.h R₁ (I₁.ow x _ a₁).2.1 w4) fun res s' q=>?_)⟩
 obtain⟨u,g',rfl,J,r,lr⟩:=q
 obtain⟨α',J',st⟩:=I₁.lent e a₁ J lr
 exact .mk ⟨s',g',α',t₁.m⟩ J' m₁ r (s₁.trans st)
theorem SlotIs.loc_{i:Nat}{nm:Str}{v:Value}(hl:isLoc Γ.c i nm=true)(h:SlotIs Γ.env t nm v):t.m nm=some v:=by
 have h2:=(Mine.loc_ hl).2
 rw[Γ.K]at h2
 induction h with
 |loc _ q=>exact q
 |cell c q=>
  rcases q with q|q
  ·exact nomatch h2.symm.trans q
  ·exact nomatch h2.symm.trans q
theorem own_same{i:Nat}{ys:List V}{nm:Str}{a:Addr}(hl:isLoc Γ.c i nm=true)(w:SlotIs Γ.env t nm (.ref a))(I':FInv Γ ρ₁ σ₁ t₁)(m:t₁.m=t.m)(e':ρ₁.get i=some (.o ys)):t₁.α i=some a∧PList t₁.g t₁.s.heap a ys:=by
 obtain⟨n2,b,u1,u2,u3,u4⟩:=I'.own e'
 obtain rfl:=sij ((loc_ hl).1.symm.trans u1)
 obtain rfl:=rfi ((w.loc_ hl).symm.trans ((congrFun m nm).symm.trans (u2.loc_ hl)))
 exact⟨u3,u4⟩
theorem r_callF{es:Es}{x:Nat}{vs xs ys:List V}{v:V}(e:ρ.get x=some (.o xs))(h:OkL X d es ρ σ (vs,ρ₁,σ₁))(e':ρ₁.get x=some (.o ys))(k:Runs X d f (.flist ys::vs) σ₁ (v,σ₂)):OkE X d (.callF f x es) ρ σ (v,ρ₁.put x (.v (.flist ys)),σ₂):=by
 intro Γ y t hx I
 replace hx:=callN_ hx;obtain⟨n,p,l,q,rfl,hx⟩:=hx
 obtain⟨hx,q3⟩:=band hx
 obtain⟨q1,q2⟩:=band hx
 obtain⟨z,ez,h3⟩:=hd_ (l:=l) q2
 obtain⟨n',p',rfl,hl⟩:=nam_ h3
 obtain⟨ob,fd,hb,hd⟩:=k.fn.ex
 obtain⟨_,a,w1,w2,w3,_⟩:=I.own e
 obtain rfl:=sij ((loc_ hl).1.symm.trans w1)
 refine wpAny_Call_Name_kw (wp_glob I q1 fun u hu=>?_)
 cases hu
 refine callWith_function (o:=ob) (fd:=fd) (evalArgs_all (fun y hy=>?_) ?_)
 ·rw[ez]at hy
  rcases Qt.mp hy with rfl|hy
  ·rfl
  ·exact okEs_star es q3 y hy
 rw[ez]
 refine spliced_more (wp_slot I w1 w2 (h.go q3 I fun us t₁ I₁ m₁ R₁ s₁=>?_)) rfl
 obtain⟨_,b,o,u1,u2,u3,J,st⟩:=I₁.freeze e'
 obtain rfl:=sij ((loc_ hl).1.symm.trans u1)
 obtain rfl:=rfi ((w2.loc_ hl).symm.trans ((congrFun m₁ n').symm.trans (u2.loc_ hl)))
 exact⟨⟨I₁.h.keepsBase _ _ hb,hd⟩,call_go (t₁:=t₁.fz x _ o) k J m₁ (s₁.trans st) (.cons u3 (R₁.mono st.le))⟩
end
section
variable {prog:Program}{w:World}{A:Around}{E:Value→Shared→Prop}{s:Shared}
theorem adjust_upto(b n:Nat)(hb:b≤n):Builtin.Slice.sliceAdjust none (some (b:Int)) 1 (n:Int)=(0,(b:Int)):=by
 unfold Builtin.Slice.sliceAdjust
 have h1:¬((1:Int) < 0):=by lia
 have h2:¬((b:Int) < 0):=by lia
 simp only[h1,h2,if_false]
 congr 1
 lia
theorem places_upto(b:Nat):Builtin.Slice.slicePlaces 0 (b:Int) 1=b:=by
 unfold Builtin.Slice.slicePlaces
 have h1:(1:Int) > 0:=by lia
 simp only[h1,if_true,Int.ediv_one]
 split<;>lia
theorem sliceApplied_upto{sl:Addr}{b n:Nat}{u:Tok}{Q:Int × Int × Nat→Shared→Prop}(hs:s.heap.IsSliceOf sl .none (.int b u) .none)(hb:b≤n)(h:Q (0,1,b) s):
  wpAny (model prog w) A (Builtin.Slice.sliceApplied (.ref sl) (pure (n:Int))) Q E s:=by
 obtain⟨os,hos,hcs,hds⟩:=id hs
 unfold Builtin.Slice.sliceApplied Builtin.Slice.sliceFields
 refine QV (QV (wpAny_field hos hds (x:=.none) rfl (QV (wpAny_field hos hds (x:=.int b u) rfl (QV (wpAny_field hos hds (x:=.none) rfl (QW ?_)))))))
 refine QV (slicePart_none ?_)
 show wpAny _ _ (if((1:Int)==0)=true then _ else _) _ _ s
 rw[if_neg (by decide)]
 refine QV (slicePart_none (QV (slicePart_int (QV (QW ?_)))))
 show wpAny _ _ (match Builtin.Slice.sliceAdjust none (some (b:Int)) 1 (n:Int)with|(lo,hi)=>pure (lo,(1:Int),Builtin.Slice.slicePlaces lo hi 1)) _ _ s
 rw[adjust_upto b n hb]
 show wpAny _ _ (pure ((0:Int),(1:Int),Builtin.Slice.slicePlaces 0 (b:Int) 1)) _ _ s
 rw[places_upto b]
 exact QW h
theorem pick_upto(xs:Array Value)(b:Nat):((List.range b).filterMap fun(k:Nat)=>xs[((0:Int)+(k:Int)*1).toNat]?).toArray=(xs.toList.take b).toArray:=by
 have e:(fun(k:Nat)=>xs[((0:Int)+(k:Int)*1).toNat]?)=fun k=>xs[0+k]?:=by
  funext k
  have:((0:Int)+(k:Int)*1).toNat=0+k:=by lia
  rw[this]
 rw[e]
 have:=pick_run xs 0 b
 rw[List.filterMap_map]at this
 have e2:((fun x=>xs[x]?)∘fun x=>0+x)=fun k=>xs[0+k]?:=rfl
 rw[e2]at this
 rw[this,List.drop_zero]
theorem getItem_tuple_upto{t sl:Addr}{items:Array Value}{b:Nat}{u:Tok}{Q:Value→Shared→Prop}(ht:IsTup s.heap t items)(hs:s.heap.IsSliceOf sl .none (.int b u) .none)(hb:b < items.size)
  (h:Q (.ref s.heap.objs.size) {s with heap:=s.heap.push {cls:=.type "tuple",data:=.seq (items.toList.take b).toArray}})
  (hsz:items.size≤sizeLine):wpAny (model prog w) A (getItem (.ref t) (.ref sl)) Q E s:=by
 have hdrop:sizeOk (.seq (items.toList.take b).toArray):=by
  show(items.toList.take b).toArray.size≤sizeLine
  rw[Qo,List.length_take,Array.length_toList]
  lia
 obtain⟨os,hos,hcs,hds⟩:=id hs
 have hTs:s.TypeIs (.ref sl) "slice":=⟨os,hos,hcs⟩
 unfold getItem
 try with_reducible refine wpAny_holding ?_
 first|refine QV (QW ?_)|skip
 refine QV (wpAny_sequenceKey ht.typeIs (by decide) ?_)
 refine QV (wpAny_callSpecial?_slot (name:=Str.ofString "__getitem__") ht.typeIs slot_tuple_getitem
  (wpAny_call_entry slot_tuple_getitem ht.typeIs entry_tuple_getitem ?_ (args_tuple_getitem _ _)))
 show wpAny _ _ (Builtin.Tuple.tupleItemsOf (.ref t) >>= _) _ _ s
 refine QV (tupleItemsOf_ ht ?_)
 refine QV (wpAny_typeOf hTs ?_)
 rw[if_pos (by decide)]
 refine QV (sliceApplied_upto hs (Nat.le_of_lt hb) ?_)
 have hno:¬(((0:Int)==0&&(1:Int)==1&&b==items.size)=true):=by
  have:(b==items.size)=false:=by rw[Zd];lia
  rw[this];simp
 show wpAny _ _ (if((0:Int)==0&&(1:Int)==1&&b==items.size)=true then _ else _) _ _ s
 rw[if_neg hno,pick_upto items b]
 first
  |exact QV (m:=Builtin.Tuple.tupleExact _) (wpAny_newObj_type (QW ⟨_,rfl,QW h⟩) hdrop)
  |exact QV (m:=Builtin.Tuple.tupleExact _) (wpAny_newObj_type (QV (QW (QW ⟨_,rfl,QW h⟩))) hdrop)
  |exact QV (QV (m:=Builtin.Tuple.tupleExact _) (wpAny_newObj_type (QW (QW ⟨_,rfl,QW h⟩)) hdrop))
end
inductive UpR:V→V→V→Prop
 |tup {xs j}:j < xs.length→UpR (.tup xs) (.int (.ofNat j)) (.tup (xs.take j))
 |fl (xs j):UpR (.flist xs) (.int (.ofNat j)) (.flist (xs.take j))
inductive FrR:V→V→V→Prop
 |mk {xs j}:0 < j→j≤xs.length→FrR (.tup xs) (.int (.ofNat j)) (.tup (xs.drop j))
inductive MiR(σ:Sg):V→V→V→V→Prop
 |mk {v xs i j}:SeqR σ v false xs→i≤j→j≤xs.length→MiR σ v (.int (.ofNat i)) (.int (.ofNat j)) (.flist ((xs.take j).drop i))
theorem len_ge{α:Type}{l:List α}{n:Nat}(h:l.length≤LIM):(l.take n).length≤LIM:=Qf (List.length_take_le' n l) h
theorem len_gd{α:Type}{l:List α}{n:Nat}(h:l.length≤LIM):(l.drop n).length≤LIM:=Qf (List.length_drop▸Nat.sub_le ..) h
section
variable {X:Wd}{d f:Nat}{Γ:Fc X d}{ρ ρ₁ ρ₂ ρ₃:Rho}{σ σ₁ σ₂ σ₃:Sg}{t t₁ t₂:St}
inductive SliI(c:Mt)(x:Expr)(a:E)(F:U→Bool):Prop
 |mk (y l h o p q):x=.Subscript y (.Slice l h o p) q→okE c a y=true→F {d0 with o1:=l,o2:=h,o3:=o,p:=p}=true→SliI c x a F
theorem sl_{c:Mt}{x:Expr}{a:E}{F:U→Bool}(hx:isE 21 x (fun u=>okE c a u.e1&&isE 26 u.e2 F)=true):SliI c x a F:=by
 obtain⟨e,hx⟩:=isE_ hx rfl
 obtain⟨q1,q2⟩:=band hx
 obtain⟨e2,q3⟩:=isE_ q2 rfl
 rw[e2]at e q3
 exact⟨_,_,_,_,_,_,e,q1,q3⟩
theorem sz_{vs:List Value}{xs:List V}{g:Gh}(r:VReps g vs xs)(h:xs.length≤LIM):(List.toArray vs).size≤sizeLine:=by
 show _≤16777216
 rw[Qo,r.length]
 exact h
noncomputable def slObj(a b:Value):Obj:={cls:=.type "slice",data:=.fields #[a,b,.none]}
noncomputable def withSl(s:Shared)(a b:Value):Shared:={s with heap:=s.heap.push (slObj a b)}
theorem keepSl{s:Shared}{a b:Value}:∀c,Keep s.heap (withSl s a b).heap c:=fun _ _ e=>QD _ e
section
variable {X:Cx}{g:Gh}{σ:Sg}{s:Shared}{A:Around}{ve se:Expr}{va vb vc:Value}{v u w z:V}
theorem op_upto(I:HInv X g σ s)(hs:∀o i,subscripted se false o i=operate [i,o] (getItem o i))(ra:VRep g va v)(rb:VRep g vb u)(e:UpR v u w):wpAny (model pw X.w) A (subscriptTail ve se va (.ref s.heap.objs.size)) (PH X g s.heap (w,σ)) NoE (withSl s .none vb):=by
 have J:HInv X g σ (withSl s .none vb):=I.grown (t:=s.toks) keepSl
 induction e with
 |tup h=>
  obtain⟨tk,rfl⟩:=rb.int_inv
  obtain⟨c,vs,rfl,ht,hr,hl⟩:=ra.tui J
  exact tail_any ht.typeIs slot_tuple_getitem.lookup (getItem_tuple_upto ht (.new ..) (by rw[Qo,hr.length];exact h) (PH.fz (t:=s.toks) I keepSl rfl fun hn=>mk_tup hn (hr.take _) (len_ge hl)) (sz_ hr hl)) (hs _ _)
 |fl xs j=>
  obtain⟨tk,rfl⟩:=rb.int_inv
  obtain⟨c,vs,rfl,ht,hr,hl⟩:=ra.lii J
  refine tail_any ht.typeIs slot_list_getitem.lookup (wpAny_getItem_list_slice ht (.new ..) .none (.int _ tk) .none (by simp) ?_ (sz_ hr hl)) (hs _ _)
  rw[show slicePick (List.toArray vs) none (some (Int.ofNat j)) none=(vs.take j).toArray from slicePick_upto' vs.toArray j]
  exact PH.fz (t:=s.toks) I keepSl rfl fun hn=>mk_list hn (hr.take _) (len_ge hl)
theorem op_frm(I:HInv X g σ s)(hs:∀o i,subscripted se false o i=operate [i,o] (getItem o i))(ra:VRep g va v)(rb:VRep g vb u)(e:FrR v u w):wpAny (model pw X.w) A (subscriptTail ve se va (.ref s.heap.objs.size)) (PH X g s.heap (w,σ)) NoE (withSl s vb .none):=by
 have J:HInv X g σ (withSl s vb .none):=I.grown (t:=s.toks) keepSl
 induction e with
 |mk h h'=>
  obtain⟨tk,rfl⟩:=rb.int_inv
  obtain⟨c,vs,rfl,ht,hr,hl⟩:=ra.tui J
  exact tail_any ht.typeIs slot_tuple_getitem.lookup (getItem_tuple_from ht (.new ..) h (by rw[Qo,hr.length];exact h') (PH.fz (t:=s.toks) I keepSl rfl fun hn=>mk_tup hn (hr.drop _) (len_gd hl)) (sz_ hr hl)) (hs _ _)
theorem op_mid(I:HInv X g σ s)(hs:∀o i,subscripted se false o i=operate [i,o] (getItem o i))(ra:VRep g va v)(rb:VRep g vb u)(rc:VRep g vc z)(e:MiR σ v u z w):wpAny (model pw X.w) A (subscriptTail ve se va (.ref s.heap.objs.size)) (PH X g s.heap (w,σ)) NoE (withSl s vb vc):=by
 have J:HInv X g σ (withSl s vb vc):=I.grown (t:=s.toks) keepSl
 induction e with
 | @mk xs i j q hi hj=>
  obtain⟨tk,rfl⟩:=rb.int_inv
  obtain⟨tk',rfl⟩:=rc.int_inv
  cases q.inv J ra with
  |list c vs ht hr hl=>
  refine tail_any ht.typeIs slot_list_getitem.lookup (wpAny_getItem_list_slice ht (.new ..) (.int _ tk) (.int _ tk') .none (by simp) ?_ (sz_ hr hl)) (hs _ _)
  rw[show slicePick (List.toArray vs) (some (Int.ofNat i)) (some (Int.ofNat j)) none=((vs.take j).drop i).toArray from(slicePick_run vs.toArray i j (by rw[Qo,hr.length];exact hj) hi).trans (by rw[List.drop_take])]
  exact PH.fz (t:=s.toks) I keepSl rfl fun hn=>mk_list hn ((hr.take _).drop _) (len_gd (len_ge hl))
end
theorem r_upto{a b:E}{v u w:V}(h1:OkE X d a ρ σ (v,ρ₁,σ₁))(h2:OkE X d b ρ₁ σ₁ (u,ρ₂,σ₂))(e:UpR v u w):OkE X d (.upto a b) ρ σ (w,ρ₂,σ₂):=by
 intro Γ x t hx I
 obtain⟨y,l,h,o,p,q,rfl,q1,q2⟩:=sl_ hx
 obtain⟨q2,q4⟩:=band q2
 obtain⟨q2,q3⟩:=band q2
 obtain⟨z,e1,q5⟩:=an_ (o:=h) q3
 rw[e1,show l=none from nn q2,show o=none from nn q4]
 exact Subscript_ (h1.go q1 I fun va t₁ I₁ m₁ R₁ s₁=>wpAny_Slice (QW (h2.go q5 I₁ fun vb t₂ I₂ m₂ R₂ s₂=>QW (wpm (Γ:=Γ) (op_upto I₂.h (fun _ _=>rfl) (R₁.mono s₂.le) R₂ e) fun _ _=>PE.postp I₂ (m₂.trans m₁) (s₁.trans s₂)))))
theorem r_frm{a b:E}{v u w:V}(h1:OkE X d a ρ σ (v,ρ₁,σ₁))(h2:OkE X d b ρ₁ σ₁ (u,ρ₂,σ₂))(e:FrR v u w):OkE X d (.frm a b) ρ σ (w,ρ₂,σ₂):=by
 intro Γ x t hx I
 obtain⟨y,l,h,o,p,q,rfl,q1,q2⟩:=sl_ hx
 obtain⟨q2,q4⟩:=band q2
 obtain⟨q2,q3⟩:=band q2
 obtain⟨z,e1,q5⟩:=an_ (o:=l) q2
 rw[e1,show h=none from nn q3,show o=none from nn q4]
 exact Subscript_ (h1.go q1 I fun va t₁ I₁ m₁ R₁ s₁=>wpAny_Slice (h2.go q5 I₁ fun vb t₂ I₂ m₂ R₂ s₂=>QW (QW (wpm (Γ:=Γ) (op_frm I₂.h (fun _ _=>rfl) (R₁.mono s₂.le) R₂ e) fun _ _=>PE.postp I₂ (m₂.trans m₁) (s₁.trans s₂)))))
theorem r_mid{a b c:E}{v u w z:V}(h1:OkE X d a ρ σ (v,ρ₁,σ₁))(h2:OkE X d b ρ₁ σ₁ (u,ρ₂,σ₂))(h3:OkE X d c ρ₂ σ₂ (z,ρ₃,σ₃))(e:MiR σ₃ v u z w):OkE X d (.mid a b c) ρ σ (w,ρ₃,σ₃):=by
 intro Γ x t hx I
 obtain⟨y,l,h,o,p,q,rfl,q1,q2⟩:=sl_ hx
 obtain⟨q2,q4⟩:=band q2
 obtain⟨q2,q3⟩:=band q2
 obtain⟨z,e1,q5⟩:=an_ (o:=l) q2
 obtain⟨z',e2,q6⟩:=an_ (o:=h) q3
 rw[e1,e2,show o=none from nn q4]
 exact Subscript_ (h1.go q1 I fun va t₁ I₁ m₁ R₁ s₁=>wpAny_Slice (h2.go q5 I₁ fun vb t₂ I₂ m₂ R₂ s₂=>h3.go q6 I₂ fun vc t₃ I₃ m₃ R₃ s₃=>QW (wpm (Γ:=Γ) (op_mid I₃.h (fun _ _=>rfl) (R₁.mono (s₂.le.trans s₃.le)) (R₂.mono s₃.le) R₃ e) fun _ _=>PE.postp I₃ (m₃.trans (m₂.trans m₁)) ((s₁.trans s₂).trans s₃))))
end
inductive InsR(σ:Sg):V→Addr→Nat→List (Nat × V)→Prop
 |mk {r c d kvs}:σ[r]?=some (.inst c d)→σ[d]?=some (.adict kvs)→InsR σ (.ref r) c d kvs
noncomputable def storedF(kvs:List (Nat × V))(k:Nat)(v:V):List (Nat × V):=List.rec [(k,v)] (fun p r ih=>@Bool.rec (fun _=>List (Nat × V)) (p::ih) ((p.1,v)::r) (Nat.beq p.1 k)) kvs
section
variable {X:Cx}{g:Gh}{σ:Sg}{s:Shared}{A:Around}
theorem isStr_kn{k n:Nat}{t:Tok}(hk:k < 36)(hn:n < 36):Value.isStr (.str (kn k) t) (kn n)=Nat.beq k n:=by
 show(kn k==kn n)=_
 cases h:Nat.beq k n with
 |true=>rw[Qy h];exact Zb _
 |false=>exact Zd.mpr fun e=>by rw[kn_inj hk hn e,Nat.beq_refl]at h;exact nomatch h
theorem lookA_cons{k n:Nat}{x:V}{kvs:List (Nat × V)}{b:Bool}(h:Nat.beq k n=b):lookA ((k,x)::kvs) n=@Bool.rec (fun _=>Option V) (lookA kvs n) (some x) b:=by
 induction b with
 |true=>exact if_pos (Qy h)
 |false=>exact if_neg fun e=>by rw[show k=n from e,Nat.beq_refl]at h;exact nomatch h
inductive EntI(g:Gh)(es:List DictEntry)(kvs:List (Nat × V))(n:Nat):Prop
 |no:lookA kvs n=none→es.find? (·.key.isStr (kn n))=none→es.any (·.refKey)=false→EntI g es kvs n
 |yes (x e):lookA kvs n=some x→es.find? (·.key.isStr (kn n))=some e→VRep g e.val x→EntI g es kvs n
theorem ents_find{n:Nat}(hn:n < 36){es:List DictEntry}{kvs:List (Nat × V)}(h:F2 (AEnt g) es kvs):EntI g es kvs n:=by
 induction h with
 |nil=>exact .no rfl rfl rfl
 | @cons e p es kvs h _ ih=>
  obtain⟨hk,⟨t,ek⟩,r⟩:=h
  have e1:=isStr_kn (t:=t) hk hn
  rw[← ek]at e1
  cases hb:Nat.beq p.1 n with
  |true=>exact .yes p.2 e (lookA_cons (k:=p.1) hb) (List.find?_cons_of_pos (e1.trans hb)) r
  |false=>
   have e2:=lookA_cons (x:=p.2) (kvs:=kvs) hb
   have e3:(e::es).find? (·.key.isStr (kn n))=es.find? (·.key.isStr (kn n)):=List.find?_cons_of_neg (by rw[e1,hb];exact QQ)
   induction ih with
   |no q1 q2 q3=>exact .no (e2.trans q1) (e3.trans q2) (by rw[List.any_cons,q3,Bool.or_false];unfold DictEntry.refKey;rw[ek])
   |yes x e' q1 q2 q3=>exact .yes x e' (e2.trans q1) (e3.trans q2) q3
theorem getL_no{es:List DictEntry}{n:Str}(h:es.find? (·.key.isStr n)=none)(h':es.any (·.refKey)=false):getL n es=some none:=by unfold getL;rw[h,h'];rfl
theorem getL_yes{es:List DictEntry}{n:Str}{e:DictEntry}(h:es.find? (·.key.isStr n)=some e):getL n es=some (some e.val):=by unfold getL;rw[h]
inductive InsI(X:Cx)(g:Gh)(s:Shared)(u:Value)(c:Addr)(d:Nat)(kvs:List (Nat × V)):Prop
 |mk (K fi ad dx es nn):u=.ref ad→K.In s.heap→ClsOK K c fi→g.ι[d]?=some dx→s.heap.get? ad=some {cls:=.ref c,dict:=some dx,data:=.plain}→s.heap.get? dx=some (dictOf es nn)→F2 (AEnt g) es kvs→InsI X g s u c d kvs
theorem InsR.inv(B:BaseOK X)(I:HInv X g σ s){u:Value}{v:V}{c:Addr}{d:Nat}{kvs:List (Nat × V)}(r:VRep g u v)(h:InsR σ v c d kvs):InsI X g s u c d kvs:=by
 induction h with
 |mk h1 h2=>
  obtain⟨K,hK,hC1,hC2⟩:=B.cls
  obtain⟨ad,e,_,dx,hdx,hob,hcc⟩:=r.obj I h1
  obtain⟨es,nn,hdo,hen⟩:∃es n,s.heap.get? dx=some (dictOf es n)∧F2 (AEnt g) es _:=I.ob _ _ _ h2 hdx
  have XK:K.In s.heap:=fun a o w=>I.keepsBase a o (hK a o w)
  rcases hcc with rfl|rfl
  ·exact .mk K _ ad dx es nn e XK hC1 hdx hob hdo hen
  ·exact .mk K _ ad dx es nn e XK hC2 hdx hob hdo hen
theorem handed{v:Value}{x:V}(r:VRep g v x):handedIn v=true:=
 VRep.rec (motive_1:=fun v _ _=>handedIn v=true) (motive_2:=fun _ _ _=>True) rfl (fun _=>rfl) (fun _ _=>rfl) (fun _ _ _=>rfl) (fun _ _ _ _ _ _=>rfl) (fun _ _ _ _ _ _=>rfl) (fun _=>rfl) (fun _=>rfl) trivial (fun _ _ _ _=>trivial) r
theorem op_attr(B:BaseOK X)(I:HInv X g σ s){u:Value}{a x:V}{n c d:Nat}{kvs:List (Nat × V)}(hn:n < 36∧n≠34∧n≠35)(ra:VRep g u a)(h:InsR σ a c d kvs)(e:lookA kvs n=some x):
  wpAny (model pw X.w) A (getAttr u (kn n) true) (PH X g s.heap (x,σ)) NoE s:=by
 obtain⟨K,fi,ad,dx,es,nn,rfl,XK,C,hdx,hob,hdo,hen⟩:=h.inv B I ra
 cases ents_find hn.1 hen with
 |no q=>exact nomatch q.symm.trans e
 |yes y v q1 q2 q3=>
  obtain rfl:=sij (q1.symm.trans e)
  have inst:W.InstAt s.heap ad {cls:=.ref c,dict:=some dx,data:=.plain} c (some (dictOf es nn)):=⟨hob,rfl,rfl,hdo⟩
  exact get_value XK inst C.ga (findObj_own C.hd (C.at' n hn.1 hn.2.1 hn.2.2).1 rfl (getL_yes q2)) (handed q3) (PH.tok _ I q3)
theorem storedF_cons{k n:Nat}{x v:V}{kvs:List (Nat × V)}{b:Bool}(h:Nat.beq k n=b):storedF ((k,x)::kvs) n v=@Bool.rec (fun _=>List (Nat × V)) ((k,x)::storedF kvs n v) ((k,v)::kvs) b:=h▸rfl
theorem stored_ents{n:Nat}(hn:n < 36){hsh:Int}{t:Tok}{u:Value}{x:V}(hx:VRep g u x){es:List DictEntry}{kvs:List (Nat × V)}(h:F2 (AEnt g) es kvs):F2 (AEnt g) (putL (kn n) hsh (.str (kn n) t) u es) (storedF kvs n x):=by
 induction h with
 |nil=>exact .cons ⟨hn,⟨_,rfl⟩,hx⟩ .nil
 | @cons e p es kvs h hr ih=>
  obtain⟨hk,⟨t',ek⟩,r⟩:=id h
  have e1:=isStr_kn (t:=t') hk hn
  rw[← ek]at e1
  have e2:putL (kn n) hsh (.str (kn n) t) u (e::es)=if e.key.isStr (kn n)=true then{e with val:=u}::es else e::putL (kn n) hsh (.str (kn n) t) u es:=rfl
  rw[e2,e1]
  cases hb:Nat.beq p.1 n with
  |true=>rw[if_pos rfl,storedF_cons (k:=p.1) hb];exact .cons ⟨hk,⟨t',ek⟩,hx⟩ hr
  |false=>rw[if_neg QQ,storedF_cons (k:=p.1) hb];exact .cons h ih
theorem storedF_len(kvs:List (Nat × V))(n:Nat)(x:V):(storedF kvs n x).length≤kvs.length+1:=by
 induction kvs with
 |nil=>exact Qd _
 |cons p r ih=>
  cases hb:Nat.beq p.1 n with
  |true=>rw[storedF_cons (k:=p.1) hb];exact Qn _
  |false=>rw[storedF_cons (k:=p.1) hb];exact Qv ih
theorem PU.upd{i:Nat}{a:Addr}{mo:MObj}{h':Heap}{t:Tok}(I:HInv X g σ s)(hi:g.ι[i]?=some a)(hs:Heap.SameBut a s.heap h')(hm:MRep X g h' a mo)(hl:Live h' a):PU X g s.heap (σ.set i mo) {s with heap:=h',toks:=t}:=
 ⟨g,I.upd hi hs hm hl,.upd hi hs hl⟩
theorem op_seta(B:BaseOK X)(I:HInv X g σ s){ua u:Value}{a x:V}{n c d:Nat}{kvs:List (Nat × V)}(hn:n < 36∧n≠34∧n≠35)(ra:VRep g ua a)(rx:VRep g u x)(h:InsR σ a c d kvs)(hlen:kvs.length < 100):
  wpAny (model pw X.w) A (setAttr ua (kn n) u) (fun _=>PU X g s.heap (σ.set d (.adict (storedF kvs n x)))) NoE s:=by
 obtain⟨K,fi,ad,dx,es,nn,rfl,XK,C,hdx,hob,hdo,hen⟩:=h.inv B I ra
 have inst:W.InstAt s.heap ad {cls:=.ref c,dict:=some dx,data:=.plain} c (some (dictOf es nn)):=⟨hob,rfl,rfl,hdo⟩
 obtain⟨cd,hc,hd'⟩:=any_some C.hd
 refine set_plain XK inst C.sa (osa_open (s:={s with toks:=s.toks+1}) XK inst C.po (C.at' n hn.1 hn.2.1 hn.2.2).2 fun b=>?_)
 refine QV (QW (QV (QV (wpAny_loadPart hob (QV (Looks.here (s:={s with toks:=s.toks+1}) (looks_clsIn XK hc) ?_))))))
 rw[hd']
 refine QW (a:=some dx) (QV (QW (QV ?_)))
 unfold nsSet
 refine QV (QV (wpAny_askSetting (QW (QV (wpAny_mkText (QV (wpAny_loadPart hdo ?_)))))))
 dsimp only
 have cc:(!es.toArray.any (·.key.isStr (kn n))&&es.toArray.any (·.refKey))=false:=by
  rw[List.any_toArray,List.any_toArray]
  cases ents_find hn.1 hen with
  |no _ _ q=>rw[q,Bool.and_false]
  |yes x e _ q=>rw[List.any_eq_true.mpr ⟨e,List.mem_of_find?_eq_some q,List.find?_some q⟩];rfl
 rw[aRefKeyMayBeTheName_at,cc]
 refine wpAny_updatePart hdo ?_
 generalize (if(kn n).cps.isEmpty=true then 0 else reduceHash ((model pw X.w).w.params.strHash (kn n).cps))=hsh
 have hput:=putName_dict (kn n) hsh (.str (kn n) (s.toks+1)) u es nn
 have D':(s.heap.update dx (Obj.putName (kn n) hsh (.str (kn n) (s.toks+1)) u)).get? dx=some (dictOf (putL (kn n) hsh (.str (kn n) (s.toks+1)) u es) (putN (kn n) es nn)):=by
  rw[← hput]
  exact Heap.get?_update_self _ hdo (by rw[hput];rfl)
 have hen':=stored_ents hn.1 (hsh:=hsh) (t:=s.toks+1) rx hen
 have hz:(putL (kn n) hsh (.str (kn n) (s.toks+1)) u es).length≤sizeLine:=by
  rw[hen'.length,sizeLine_eq]
  exact Qf (storedF_len kvs n x) (Qf hlen (by decide))
 refine QV (wpAny_lookBehind D' (pastItsLine_dict (by rw[Qo];exact Nat.le_succ_of_le hz)) ?_)
 exact QW (PU.upd (t:=s.toks+1+1) I hdx (Heap.SameBut.update ..) ⟨_,_,D',hen'⟩ ⟨_,D'⟩)
end
section
variable {X:Wd}{d f:Nat}{Γ:Fc X d}{ρ ρ₁ ρ₂ ρ₃:Rho}{σ σ₁ σ₂ σ₃:Sg}{t t₁ t₂:St}
theorem r_attr{a:E}{v x:V}{n c k:Nat}{kvs:List (Nat × V)}(h1:OkE X d a ρ σ (v,ρ₁,σ₁))(h:InsR σ₁ v c k kvs)(e:lookA kvs n=some x):OkE X d (.attr a n) ρ σ (x,ρ₁,σ₁):=by
 intro Γ y t hx I
 obtain⟨ey,hx⟩:=isE_ hx rfl
 obtain⟨hx,q3⟩:=band hx
 obtain⟨q1,q2⟩:=band hx
 obtain⟨n1,n2,n3,n4⟩:=QX q3
 rw[n4]at ey
 rw[ey]
 exact Attribute_any_ (h1.go q1 I fun u t₁ I₁ m₁ R₁ s₁=>PE.post I₁ m₁ s₁ (op_attr X.B I₁.h ⟨n1,n2,n3⟩ R₁ h e)) (by rw[arm_eval_Attribute,attributeBase_of q2])
inductive AsgI(x:Stmt)(f:Expr→Expr→Bool):Prop
 |mk (t v p):x=.Assign [t] v p→f t v=true→AsgI x f
theorem asg_{x:Stmt}{f:Expr→Expr→Bool}(h:asg x f=true):AsgI x f:=by
 obtain⟨e,h⟩:=isS_ (x:=x) (n:=5) (f:=fun u=>u.t.tail.isEmpty&&u.t.head?.any fun t=>f t u.e1) (by with_unfolding_all exact h) rfl
 obtain⟨h1,h2⟩:=band h
 obtain⟨t,e2,h3⟩:=hd_ h2
 rw[e2,emp h1]at e
 exact⟨t,_,_,e,h3⟩
theorem r_seta{a v:E}{x y:V}{n c k:Nat}{kvs:List (Nat × V)}(h3:OkE X d v ρ σ (x,ρ₁,σ₁))(h1:OkE X d a ρ₁ σ₁ (y,ρ₂,σ₂))(h:InsR σ₂ y c k kvs)(hlen:kvs.length < 100):OkS X d (.seta a n v) ρ σ (.next,ρ₂,σ₂.set k (.adict (storedF kvs n x))):=by
 intro Γ z t hx I
 replace hx:=asg_ hx;obtain⟨ta,va,p,rfl,hx⟩:=hx
 obtain⟨hx,q3⟩:=band hx
 obtain⟨q1,q2⟩:=band hx
 obtain⟨e,q4⟩:=isE_ q2 rfl
 obtain⟨q5,q6⟩:=band q4
 obtain⟨n1,n2,n3,n4⟩:=QX q6
 rw[n4]at e
 rw[e]
 exact plainObj_wpAny_Assign_Attribute (h3.go q1 I fun u t₁ I₁ m₁ R₁ s₁=>h1.go q5 I₁ fun w t₂ I₂ m₂ R₂ s₂=>PS.post I₂ (s₁.trans s₂) (op_seta X.B I₂.h ⟨n1,n2,n3⟩ R₂ (R₁.mono s₂.le) h hlen) fun _ _ q=>q) (swaps_no q3)
theorem wp_meth{M:Model}{A:Around}{E:Value→Shared→Prop}{env:Env}{o:Expr}{name:Str}{apos pos:Pos}{xs:List Expr}{Q:Value→Shared→Prop}{s:Shared}(hb:baseOk o=true)(hs:∀x∈xs,notStar x=true)(hn:xs.length < 20)(hl:(apos.endLine==pos.line)=true)
  (h:wpAny M A (eval o env) (fun ov s₁=>wpAny M A (getMethod ov name (do return (← importBound o env).getD true)) (fun fx s₂=>wpAny M A (callWith pos fx.1 fx.2 (backTo pos (starEach xs env)) []) Q E s₂) E s₁) E s):
  wpAny M A (eval (.Call (.Attribute o name apos) xs [] pos) env) Q E s:=by
 have hall:(backTo pos (starEach xs env)).all (fun x=>!x.1)=true:=by
  rw[List.all_eq_not_any_not]
  simp only[Bool.not_not,any_plain hs,Bool.not_false]
 have hform:methodCallForm (xs.length+([]:List Keyword).length) (backTo pos (starEach xs env)) (backToKw pos (keywordEach [] env))=true:=by
  unfold methodCallForm
  rw[hall]
  exact QZ (show xs.length+0+0 < 30 from Nat.lt_trans hn (by decide))
 have hpos:methodCallPos true o env apos pos=pure pos:=by unfold methodCallPos;simp[hl]
 rw[arm_eval_Call,attributeBase_of hb]
 refine QV (QY h (fun ov s₁ h₁=>QV (wpAny_standAt ?_)) fun _ _ e=>e)
 unfold methodCall
 rw[hform]
 refine QV (wpAny_holding ?_)
 unfold calleeOf
 exact QY h₁ (fun fx s₂ h₂=>QV (wpAny_of_eq hpos h₂)) fun _ _ q=>q
theorem K_in{K:Frag}{g:Gh}{s:Shared}(hK:K.In X.X.base)(I:HInv X.X g σ s):K.In s.heap:=fun a o w=>I.keepsBase a o (hK a o w)
theorem r_meth{a:E}{es:Es}{v x:V}{vs:List V}{n c k:Nat}{kvs:List (Nat × V)}(h1:OkE X d a ρ σ (v,ρ₁,σ₁))(h:InsR σ₁ v c k kvs)(e:lookA kvs n=none)(hm:methTab c n=some f)(h2:OkL X d es ρ₁ σ₁ (vs,ρ₂,σ₂))(kk:Runs X d f (v::vs) σ₂ (x,σ₃)):OkE X d (.meth f a n es) ρ σ (x,ρ₂,σ₃):=by
 intro Γ y t hx I
 replace hx:=methN_ hx;obtain⟨o,ap,l,q,rfl,hl,hx⟩:=hx
 obtain⟨hx,q4⟩:=band hx
 obtain⟨hx,q3⟩:=band hx
 obtain⟨q1,q2⟩:=band hx
 obtain⟨n1,n2⟩:=QX q3
 obtain⟨K₀,hK₀,_⟩:=X.B.cls
 have st:=okEs_star es q4
 refine wp_meth q2 st n2 hl (h1.go q1 I fun ov t₁ I₁ m₁ R₁ s₁=>?_)
 obtain⟨K,fi,ad,dx,es',nn,rfl,XK,C,hdx,hob,hdo,hen⟩:=h.inv X.B I₁.h R₁
 have inst:W.InstAt t₁.s.heap ad {cls:=.ref c,dict:=some dx,data:=.plain} c (some (dictOf es' nn)):=⟨hob,rfl,rfl,hdo⟩
 obtain⟨w1,w2,w3⟩:=C.meth n f hm
 have hg:getL (kn n) es'=some none:=by
  cases ents_find n1 hen with
  |no _ q1 q2=>exact getL_no q1 q2
  |yes x _ q=>exact nomatch e.symm.trans q
 refine method_fn XK inst C.ga C.gt w1 w2 (by show(lookIn (kn n) (dictOf es' nn)).map _=_;rw[lookIn_dict,hg];rfl) ?_
 obtain⟨ob,fd,hb,hd⟩:=kk.fn.ex
 exact callWith_function (o:=ob) (fd:=fd) (evalArgs_all st (h2.go q4 I₁ fun us t₂ I₂ m₂ R₂ s₂=>⟨⟨I₂.h.keepsBase _ _ hb,hd⟩,call_go (us:=.ref ad::us) kk I₂ (m₂.trans m₁) (s₁.trans s₂) (.cons (R₁.mono s₂.le) R₂)⟩))
theorem r_new{es:Es}{vs:List V}{k:Nat}(h2:OkL X d es ρ σ (vs,ρ₁,σ₁))(kk:Runs X d f (.ref (σ₁.length+1)::vs) (σ₁++[.adict [],.inst k σ₁.length]) (.none,σ₂)):OkE X d (.new k f es) ρ σ (.ref (σ₁.length+1),ρ₁,σ₂):=by
 intro Γ y t hx I
 replace hx:=callN_ hx;obtain⟨n,p,l,q,rfl,hx⟩:=hx
 obtain⟨hx,q3⟩:=band hx
 obtain⟨q1,q2⟩:=band hx
 have q3:=QX q3
 have hcc:k=91∨k=347:=q3.imp And.left And.left
 obtain⟨K,hK,hC1,hC2⟩:=X.B.cls
 have C:ClsOK K k f:=by
  rcases q3 with⟨rfl,rfl⟩|⟨rfl,rfl⟩
  ·exact hC1
  ·exact hC2
 have st:=okEs_star es q2
 refine wpAny_Call_Name_kw (wp_glob I q1 fun u hu=>?_)
 cases hu
 refine callWith_of (P:=fun h=>K.In h) (by rw[any_plain st];rfl) (keeps_K C.keep) (evalArgs_all st (h2.go q2 I fun us t₁ I₁ m₁ R₁ s₁=>⟨K_in hK I₁.h,?_⟩))
 have XK:=K_in hK I₁.h
 obtain⟨⟨hh,gg,dd,tt,oo⟩,g',α',m'⟩:=t₁
 show wpAny _ _ (call (.ref k) us []) _ _ _
 refine wpAny_call (make_core (makes_of XK C.mks) (looks_findIn XK C.ini) (fun self=>bind_fn XK self C.inif) (.inl rfl) ?_)
 have hk1:∀a,Keep hh (hh.push emptyDict) a:=fun _ _ e=>QD _ e
 obtain⟨fr,fr'⟩:=I₁.h.fresh (get?_none_size _)
 have I1:=(I₁.h.grown (t:=tt) hk1).al (m:=.adict []) fr fr' ⟨_,QF _ rfl⟩ ⟨[],0,QF _ rfl,.nil⟩
 have hk2:∀a,Keep (hh.push emptyDict) ((hh.push emptyDict).push (instObj k hh.objs.size)) a:=fun _ _ e=>QD _ e
 have hsz:(hh.push emptyDict).objs.size=hh.objs.size+1:=Heap.size_push ..
 obtain⟨fr2,fr2'⟩:=I1.fresh (get?_none_size (hh.push emptyDict))
 have lv:=QF (hh.push emptyDict) (o:=instObj k hh.objs.size) rfl
 have dd2:=get?_none_size (hh.push emptyDict)
 rw[hsz]at fr2 fr2' lv dd2
 have hi1:((g'.al hh.objs.size).al (hh.objs.size+1)).ι[σ₁.length]?=some hh.objs.size:=Gh.Le.al.io _ _ (I₁.h.len▸g'.al_self hh.objs.size)
 have hi2:((g'.al hh.objs.size).al (hh.objs.size+1)).ι[σ₁.length+1]?=some (hh.objs.size+1):=by
  have:=(g'.al hh.objs.size).al_self (hh.objs.size+1)
  rwa [I1.len,Qb]at this
 have I2:=(I1.grown (t:=tt) hk2).al (a:=hh.objs.size+1) (m:=.inst k σ₁.length) fr2 fr2' ⟨_,lv⟩ ⟨hh.objs.size,hi1,lv,hcc⟩
 rw[QN]at I2
 have st2:HStep g' hh ((g'.al hh.objs.size).al (hh.objs.size+1)) ((hh.push emptyDict).push (instObj k hh.objs.size)):=(FStep.al (get?_none_size _) hk1).trans (.al dd2 hk2)
 have room:Room (Γ.A.under (.builtin "type.__call__" ⟨.ref k::us,[]⟩)) d:=⟨Γ.hd,Γ.dep,by show Γ.A.units+1+30*d+200≤cLine;have:=Γ.uni;lia⟩
 refine codeAny_mono (kk.run _ _ _ (.ref (hh.objs.size+1)::us) room I2 (.cons (.ref hi2) (R₁.mono (Gh.Le.al.trans .al)))) fun res s' hres=>?_
 obtain⟨u,rfl,g'',hi,rep',st'⟩:=hres
 obtain rfl:u=.none:=rep'.inv
 exact⟨rfl,PE.postp I₁ m₁ s₁ ⟨g'',hi,.ref (st'.le.io _ _ hi2),st2.trans st'⟩⟩
end
noncomputable def zDraws(k:TK):Nat:=@Bool.rec (fun _=>Nat) 3 4 k.2.2
section
variable {w:World}
inductive TItems(w:World)(h:Heap):TK→List Value→Prop
 |two (a b t u):TItems w h (a,b,false) [.int a t,.int b u]
 |three (a b t u e):IsTupleKey (intKind pw w) h [] e→TItems w h (a,b,true) [.int a t,.int b u,.ref e]
inductive IsTK(w:World)(h:Heap)(k:TK)(a:Addr):Prop
 |mk (o items n):h.get? a=some o→o.cls=.type "tuple"→o.data=.seq (List.toArray items) n→TItems w h k items→IsTK w h k a
noncomputable def tkD(k:TK):PyData:=.tuple (.int k.1::.int k.2.1::@Bool.rec (fun _=>List PyData) [] [.tuple []] k.2.2)
theorem IsTK.reads{h:Heap}{a:Addr}{x:TK}(hx:IsTK w h x a):Reads h (.ref a) (tkD x) []:=by
 obtain⟨o,items,n,ho,hc,hd,hi⟩:=hx
 induction hi with
 |two a b t u=>exact .tuple (as:=[]++([]++[])) ho hc hd (.cons (.int a t) (.cons (.int b u) .nil))
 |three a b t u e q=>
  obtain⟨o',l,n',h1,h2,h3,h4⟩:=q
  have h5:l.toList=[]:=by
   revert h4
   generalize l.toList=l
   intro h
   cases h;rfl
  exact .tuple (as:=[]++([]++([]++[]))) ho hc hd (.cons (.int a t) (.cons (.int b u) (.cons (.tuple h1 h2 h3 (h5▸.nil)) .nil)))
theorem tkD_inj:∀{x y:TK},tkD x=tkD y→x=y
 |(a,b,p),(c,d,q),e=>by
  injection e with e
  injection e with e1 e
  injection e with e2 e3
  injection e1 with e1
  injection e2 with e2
  subst e1 e2
  induction p<;>induction q<;>first|rfl|exact nomatch e3
theorem IsTK.inj{h:Heap}{a:Addr}{x y:TK}(hx:IsTK w h x a)(hy:IsTK w h y a):x=y:=tkD_inj (hx.reads.unique _ _ hy.reads).1
theorem IsTK.typeIs{s:Shared}{k:TK}{a:Addr}(x:IsTK w s.heap k a):s.TypeIs (.ref a) "tuple":=by
 obtain⟨o,_,_,ho,hc,_⟩:=x
 exact⟨o,ho,hc⟩
theorem IsTK.keeps{h h':Heap}{k:TK}{a d:Addr}{o:Obj} {es ep}(x:IsTK w h k a)(ho:h.get? d=some o)(hd:o.data=.dict es ep)(hs:Heap.SameBut d h h'):IsTK w h' k a:=by
 obtain⟨o',items,n,ho',hc,hd',hi⟩:=x
 have hne:a≠d:=by
  rintro rfl
  obtain rfl:o'=o:=Ql (ho'.symm.trans ho)
  exact nomatch hd'.symm.trans hd
 refine⟨o',items,n,(hs.2 a hne).trans ho',hc,hd',?_⟩
 induction hi with
 |two=>exact .two ..
 |three _ _ _ _ e q=>exact .three _ _ _ _ _ (q.keeps ho hd hs)
variable {A:Around}{E:Value→Shared→Prop}{s:Shared}
noncomputable abbrev hF:Value→Array Int→Sem (ForInStep (Array Int)):=fun x r=>do let h ← pyHash x;pure PUnit.unit;pure (ForInStep.yield (r.push h))
theorem hf_cons{v:Value}{vs:List Value}{b:Array Int}{Q:Array Int→Shared→Prop}{z:Int}{s':Shared}(hv:∀{Q:Int→Shared→Prop},Q z s'→wpAny (model pw w) A (pyHash v) Q E s)(h:wpAny (model pw w) A (forIn vs (b.push z) hF) Q E s'):wpAny (model pw w) A (forIn (v::vs) b hF) Q E s:=by
 rw[List.forIn_cons]
 exact QV (QV (hv (QW h)))
theorem hf_int{i:Int}{t:Tok}{vs:List Value}{b:Array Int}{Q:Array Int→Shared→Prop}(h:wpAny (model pw w) A (forIn vs (b.push (hashInt i)) hF) Q E {s with toks:=s.toks+1}):wpAny (model pw w) A (forIn (.int i t::vs) b hF) Q E s:=hf_cons ((intKind pw w).pyHash (k:=i) (Zb i)) h
noncomputable def hsOf(k:TK):List Int:=hashInt k.1::hashInt k.2.1::@Bool.rec (fun _=>List Int) [] [reduceHash (Builtin.Tuple.tupleHashOf [])] k.2.2
theorem hash_tk{k:TK}{vs:List Value}{Q:Array Int→Shared→Prop}(hu:A.units < cLine)(hi:TItems w s.heap k vs)(h:∀b:Array Int,b.toList=hsOf k→Q b {s with toks:=s.toks+(zDraws k - 1)}):wpAny (model pw w) A (forIn vs #[] hF) Q E s:=by
 induction hi with
 |two x y t u=>exact hf_int (hf_int (QW (h _ rfl)))
 |three x y t u q hq=>exact hf_int (hf_int (hf_cons (wpAny_pyHash_tuple (knd:=intKind pw w) hu hq) (QW (h _ rfl))))
theorem wp_pyHash_tk{k:TK}{a:Addr}{Q:Int→Shared→Prop}(hu:A.units+8 < cLine)(hk:IsTK w s.heap k a)(h:Q (zHash k) {s with toks:=s.toks+zDraws k}):
  wpAny (model pw w) A (pyHash (.ref a)) Q E s:=by
 have hT:=hk.typeIs
 obtain⟨o,items,n,ho,_,hd,hi⟩:=hk
 refine pyHash_slot (T:="tuple") hT F.slot_tuple_hash F.entry_tuple_hash (F.args_tuple_hash_1 _) (beq_builtin_none _) (.inr (by lia)) ?_
 show wpAny _ _ (Builtin.Tuple.tupleItemsOf (.ref a) >>= _) _ _ s
 refine QV (wpAny_tupleItemsOf ho hd (QV ?_))
 rw[← Array.forIn_toList]
 refine hash_tk (by show A.units+1 < cLine;lia) hi fun b hb=>?_
 show wpAny _ _ (retInt (Builtin.Tuple.tupleHashOf b.toList)) _ _ _
 rw[hb]
 refine QV (wpAny_mkInt (QW ⟨_,_,rfl,?_⟩))
 obtain⟨x,y,p⟩:=k
 induction p<;>exact h
theorem tkD_lay(x:TK):(tkD x).canLay0=true:=by
 obtain⟨a,b,p⟩:=x
 induction p<;>rfl
theorem tkD_depth(x:TK):(tkD x).depth≤2:=by
 obtain⟨a,b,p⟩:=x
 induction p<;>exact QO rfl
theorem tkD_eqv(x y:TK):PyData.eqv (tkD x) (tkD y)=decide (x=y):=by
 by_cases e:x=y
 ·subst e
  exact(SeqAt.eqv_refl _ (tkD_lay x)).trans (QZ rfl).symm
 ·rw[decide_eq_false e]
  obtain⟨a,b,p⟩:=x
  obtain⟨c,d,q⟩:=y
  cases h:PyData.eqv (tkD (a,b,p)) (tkD (c,d,q))with
  |false=>rfl
  |true=>
   obtain⟨h1,h⟩:=Qq.mp (show((a==c)&&PyData.eqvAll (.int b::_) (.int d::_))=true from h)
   obtain⟨h2,h⟩:=Qq.mp (show((b==d)&&PyData.eqvAll _ _)=true from h)
   obtain rfl:=beq_iff_eq.mp h1
   obtain rfl:=beq_iff_eq.mp h2
   induction p<;>induction q<;>first|exact absurd rfl e|exact nomatch h
theorem wp_eqBool_tk{x y:TK}{a b:Addr}{Q:Bool→Shared→Prop}(hu:A.units+8 < cLine)(hx:IsTK w s.heap x a)(hy:IsTK w s.heap y b)(h:Q (decide (x=y)) s):
  wpAny (model pw w) A (eqBool (.ref a) (.ref b)) Q E s:=
 SeqAt.eqAt_reads _ _ A s _ _ _ _ hx.reads hy.reads (tkD_lay x) (tkD_lay y) (by have:=tkD_depth x;lia) pw w E Q (tkD_eqv x y▸h)
theorem wp_quiet_empty{a:Addr}{Q:Bool→Shared→Prop}(hk:IsTupleKey (intKind pw w) s.heap [] a)(h:Q true s):wpAny (model pw w) A (eqIsQuiet 7 (.ref a)) Q E s:=by
 have hT:=hk.typeIs
 obtain⟨o,items,n,ho,_,hd,hi⟩:=hk
 unfold eqIsQuiet
 refine QV (wpAny_specialOf hT F.slot_tuple_eq.lookup ?_)
 show wpAny _ _ (isInstance (.ref a) (.type "tuple") >>= _) _ _ s
 refine QV (wpAny_isInstance hT isSubtype_tuple_tuple ?_)
 simp only[Bool.not_true,Bool.false_eq_true,if_false]
 refine QV (wpAny_seqItems ho hd ?_)
 refine QV ?_
 show wpAny _ _ (forIn items _ _) _ _ s
 rw[← Array.forIn_toList]
 generalize items.toList=l at hi
 cases hi
 rw[List.forIn_nil]
 exact QW (QW h)
theorem wp_quiet_tk{k:TK}{a:Addr}{Q:Bool→Shared→Prop}(hk:IsTK w s.heap k a)(h:Q true s):wpAny (model pw w) A (eqIsQuiet 8 (.ref a)) Q E s:=by
 have hT:=hk.typeIs
 obtain⟨o,items,n,ho,_,hd,hi⟩:=hk
 unfold eqIsQuiet
 refine QV (wpAny_specialOf hT F.slot_tuple_eq.lookup ?_)
 show wpAny _ _ (isInstance (.ref a) (.type "tuple") >>= _) _ _ s
 refine QV (wpAny_isInstance hT isSubtype_tuple_tuple ?_)
 simp only[Bool.not_true,Bool.false_eq_true,if_false]
 refine QV (wpAny_seqItems ho hd ?_)
 refine QV ?_
 show wpAny _ _ (forIn (List.toArray items) _ _) _ _ s
 rw[← Array.forIn_toList]
 have quiet:∀v∈items,∀{Q:Bool→Shared→Prop},Q true s→wpAny (model pw w) A (eqIsQuiet 7 v) Q E s:=by
  intro v hv Q q
  have int:∀{i:Int} {t:Tok},v=.int i t→wpAny (model pw w) A (eqIsQuiet 7 v) Q E s:=by
   rintro i t rfl
   rw[eqIsQuiet_byValue _ rfl];exact QW q
  induction hi with
  |two x y t u=>
   rcases Qt.mp hv with e|hv
   ·exact int e
   ·exact int (Qk.mp hv)
  |three x y t u z hz=>
   rcases Qt.mp hv with e|hv
   ·exact int e
   ·rcases Qt.mp hv with e|hv
    ·exact int e
    ·obtain rfl:=Qk.mp hv
     exact wp_quiet_empty hz q
 refine wpAny_forIn_list _ (fun rest r s'=>r.1=none∧s'=s∧∀v∈rest,v∈items) _ ?_ ?_ _ _ ⟨rfl,rfl,fun _ h=>h⟩
 ·rintro v rest r s' ⟨hr,rfl,hall⟩
  refine QV (quiet v (hall v Qe) ?_)
  simp only[Bool.not_true,Bool.false_eq_true,if_false]
  exact QW ⟨rfl,rfl,fun u hu'=>hall u (Qg _ hu')⟩
 ·rintro⟨r1,r2⟩ s' ⟨hr,rfl,_⟩
  simp only at hr
  subst hr
  exact QW h
end
noncomputable def tkKind(w:World):HeapKind pw w TK where
 is:=IsTK w
 hash:=zHash
 draws:=zDraws
 room:=fun A=>A.units+8 < cLine
 inj:=fun hx hy=>hx.inj hy
 keeps:=fun x ho hd hs=>x.keeps ho hd hs
 pyHash:=fun hu hk h=>wp_pyHash_tk hu hk h
 eqBool:=fun hu hx hy h=>wp_eqBool_tk hu hx hy h
 quiet:=fun hk h=>wp_quiet_tk hk h
section
variable {X:Cx}{g:Gh}{σ:Sg}{s:Shared}
theorem one_rep{a:V}{us:List Value}{xs:List V}(r:VReps g us (a::xs)):∃v vs,us=v::vs∧VRep g v a∧VReps g vs xs:=by
 cases r with
 |cons h1 h2=>exact⟨_,_,rfl,h1,h2⟩
theorem nil_rep{us:List Value}(r:VReps g us []):us=[]:=by cases r;rfl
inductive TkI(w:World)(h:Heap)(t:TK)(u:Value):Prop
 |mk (a):u=.ref a→IsTK w h t a→TkI w h t u
theorem tk_is(I:HInv X g σ s){u:Value}{x:V}{t:TK}(r:VRep g u x)(e:TkOf x t):TkI X.w s.heap t u:=by
 have r:=r.inv
 induction e with
 |two a b=>
  obtain⟨c,o,vs,n,e,h1,h2,h3,h4,h5⟩:=r
  replace h4:=one_rep h4;obtain⟨v1,vs,rfl,q1,h4⟩:=h4
  replace h4:=one_rep h4;obtain⟨v2,vs,rfl,q2,h4⟩:=h4
  obtain⟨t1,rfl⟩:=q1.int_inv
  obtain⟨t2,rfl⟩:=q2.int_inv
  obtain rfl:=nil_rep h4
  exact⟨c,e,o,_,n,I.frz _ _ h1,h2,h3,.two ..⟩
 |three a b=>
  obtain⟨c,o,vs,n,e,h1,h2,h3,h4,h5⟩:=r
  replace h4:=one_rep h4;obtain⟨v1,vs,rfl,q1,h4⟩:=h4
  replace h4:=one_rep h4;obtain⟨v2,vs,rfl,q2,h4⟩:=h4
  replace h4:=one_rep h4;obtain⟨v3,vs,rfl,q3,h4⟩:=h4
  obtain⟨t1,rfl⟩:=q1.int_inv
  obtain⟨t2,rfl⟩:=q2.int_inv
  obtain rfl:=nil_rep h4
  obtain⟨c',o',vs',n',rfl,h1',h2',h3',h4',h5'⟩:=q3.inv
  obtain rfl:=nil_rep h4'
  exact⟨c,e,o,_,n,I.frz _ _ h1,h2,h3,.three _ _ _ _ _ ⟨o',_,n',I.frz _ _ h1',h2',h3',.nil⟩⟩
inductive TDi(X:Cx)(g:Gh)(s:Shared)(a:Addr)(kvs:List (V × V)):Prop
 |mk (xs):s.heap.DictOfH (tkKind X.w) a xs→F2 (fun(x:TK × Addr × Value)(p:V × V)=>TkOf p.1 x.1) xs kvs→TDi X g s a kvs
theorem ents_xs(I:HInv X g σ s){es:List DictEntry}{kvs:List (V × V)}(h:F2 (TEnt g) es kvs):∃xs:List (TK × Addr × Value),es=xs.map (entryOfKey (tkKind X.w))∧(∀x∈xs,IsTK X.w s.heap x.1 x.2.1)∧F2 (fun(x:TK × Addr × Value)(p:V × V)=>TkOf p.1 x.1) xs kvs:=by
 induction h with
 |nil=>exact⟨[],rfl,fun _ h=>(nomatch h),.nil⟩
 | @cons e p es kvs h _ ih=>
  obtain⟨xs,q1,q2,q3⟩:=ih
  obtain⟨⟨t,ht,hh⟩,hk,hv⟩:=h
  obtain⟨a,ea,ha⟩:=tk_is I hk ht
  refine⟨(t,a,e.val)::xs,?_,fun z hz=>?_,.cons ht q3⟩
  ·obtain⟨e1,e2,e3⟩:=e
   obtain rfl:e1=zHash t:=hh
   obtain rfl:e2=.ref a:=ea
   rw[q1];rfl
  ·rcases Qt.mp hz with rfl|hz
   ·exact ha
   ·exact q2 z hz
theorem tk_fn{x:V}{t u:TK}(h:TkOf x t)(k:TkOf x u):t=u:=by induction h<;>cases k<;>rfl
theorem TRep.dictOf(I:HInv X g σ s){a:Addr}{kvs:List (V × V)}(h:TRep g s.heap a kvs):TDi X g s a kvs:=by
 obtain⟨⟨o,es,ep,h1,h2,h3,h4⟩,nd⟩:=h
 obtain⟨xs,q1,q2,q3⟩:=ents_xs I h4
 refine⟨xs,⟨o,_,ep,h1,h2,h3,q1,q2,?_⟩,q3⟩
 clear q1 q2 h4
 induction q3 with
 |nil=>exact .nil
 |cons hr hs ih=>
  obtain⟨n1,n2⟩:=List.pairwise_cons.mp nd
  refine QU.mpr ⟨fun hm=>?_,ih n2⟩
  obtain⟨y,hy,e⟩:=List.mem_map.mp hm
  obtain⟨i,hi⟩:=QG.mp hy
  have hlt:=(Qc.mp hi).1
  rw[hs.length]at hlt
  obtain⟨y',w1,w2⟩:=hs.get (Qj hlt)
  obtain rfl:=sij (hi.symm.trans w1)
  exact n1 _ (List.getElem_mem hlt) _ hr (by have w2:=w2;rw[e]at w2;exact w2)
end
theorem upd_list{h:Heap}{l:Addr}{its:Array Value}{n:Nat}(f:Array Value→Array Value)(ho:h.get? l=some {cls:=.type "list",data:=.seq its n}):(h.update l (Obj.mapSeq f)).PlainList l (f its):=⟨_,Heap.get?_update_self _ ho rfl⟩
section
variable {prog:Program}{w:World}{A:Around}{E:Value→Shared→Prop}{s:Shared}
theorem setItem_plain{l:Addr}{items:Array Value}{k:Int}{t:Tok}{v:Value}{Q:Unit→Shared→Prop}(hl:s.heap.PlainList l items)
  (h0:0≤k) (hfit:k < 2 ^ 63) (hn:k < items.size)
  (hQ:∀h',h'.PlainList l (items.setIfInBounds k.toNat v)→Heap.SameBut l s.heap h'→Q () {s with heap:=h'}):
  wpAny (model prog w) A (setItem (.ref l) (.int k t) v) Q E s:=by
 obtain⟨ne,ho⟩:=id hl
 have hil:=hl.isList
 unfold setItem
 try with_reducible refine wpAny_holding ?_
 first|refine QV (QW ?_)|skip
 refine QV (wpAny_sequenceKey hil.typeIs (by decide) ?_)
 refine QV (wpAny_callSpecial?_slot (name:=Str.ofString "__setitem__") hil.typeIs slot_list_setitem
  (wpAny_call_entry slot_list_setitem hil.typeIs entry_list_setitem ?_ (args_list_setitem _ _ _)))
 show wpAny _ _ (Builtin.List.listSubscript? (.int k t) >>= _) _ _ s
 refine QV (wpAny_listSubscript_int (fitsIndex_of h0 hfit) ?_)
 clear hfit
 obtain⟨j,rfl⟩:=Int.eq_ofNat_of_zero_le h0
 have hj:j < items.size:=by lia
 have hx':items[j]?=some items[j]:=Array.getElem?_eq_getElem hj
 show wpAny _ _ ((seqItemAt l j >>= fun r=>pure (r.map (j,·))) >>= _) _ _ s
 refine QV (QV (wpAny_seqItemAt ho rfl (QW ?_)))
 rw[hx']
 show wpAny _ _ (setSeqItemAt l j v >>= _) _ _ s
 have hfin:=upd_list (·.setIfInBounds j v) ho
 refine QV (wpAny_setSeqItemAt ho rfl ?_)
 first
  |exact QV (QW (QW ⟨.none,rfl,QW (hQ _ hfin (Heap.SameBut.update ..))⟩))
  |exact QW ⟨.none,rfl,QW (hQ _ hfin (Heap.SameBut.update ..))⟩
open MeetsSeq in
theorem list_extendT(l:Addr)(items:Array Value)(n:Nat)(b:Addr)(items2:Array Value)(n2:Nat)(dd:Option Addr)(sl:Array (Option Value))(hs0:¬(!items.isEmpty&&Builtin.List.listTooLong (items.size+items2.size))=true)(hs1:items.size≤sizeLine)(hs2:items.size+items2.size≤sizeLine+1):
  Meets (Builtin.«list.extend» ⟨[.ref l,.ref b],[]⟩) (fun _ R s=>s.heap.get? l=some {cls:=.type "list",dict:=none,data:=.seq items n,slots:=#[]}∧s.heap.get? b=some {cls:=.type "tuple",dict:=dd,data:=.seq items2 n2,slots:=sl}∧R (.ok (.ret Value.none)) {s with heap:=s.heap.update l (Obj.mapSeq fun x=>x++items2),toks:=s.toks}):=
 .of_wp fun prog w A R s h=>by
  obtain⟨hp,g,d,tk,os⟩:=s;obtain⟨hl,hb,h⟩:=h;have f1:=AutoSeq1.idx_int;have f2:=AutoSeq1.sub_tuple_tuple;have f3:=AutoSeq1.sub_list_list;have f4:=AutoSeq1.sub_tuple_list;have f5:=AutoSeq1.sub_list_tuple;
  have hz':(items++items2).size≤sizeLine+1:=by rw[Array.size_append];exact hs2
  wp_walk using (wpAny_updateSeq hl rfl (hz:=hs1) (_hz':=hz')),AutoSeq1.wpAny_loadPart' hl,AutoSeq1.wpAny_loadPart' hb;exact⟨_,rfl,h⟩
end
noncomputable def tkA(v:V):Option {t:TK // TkOf v t}:=match v with
 | .tup [.int a,.int b]=>some ⟨_,.two a b⟩
 | .tup [.int a,.int b,.tup []]=>some ⟨_,.three a b⟩
 |_=>none
noncomputable def tkNe(t:TK)(v:V):Bool:=@Option.rec {t:TK // TkOf v t} (fun _=>Bool) true (fun s=>!(decide (s.1=t))) (tkA v)
noncomputable def noKey(t:TK)(kvs:List (V × V)):Bool:=kvs.all fun p=>tkNe t p.1
theorem noKey_{t:TK}{kvs:List (V × V)}(h:noKey t kvs=true){p:V × V}(hp:p∈kvs):¬TkOf p.1 t:=fun q=>by
 have h:=QM.mp h p hp
 unfold tkNe at h
 cases e:tkA p.1 with
 |none=>
  generalize p.1=v at q e
  cases q<;>exact nomatch e
 |some s=>
  rw[e]at h
  have h:(!(decide (s.1=t)))=true:=h
  rw[QZ (tk_fn s.2 q)]at h
  exact nomatch h
noncomputable def storedA{K:Type} [DecidableEq K](kvs:List (K × V))(k:K)(v:V):List (K × V):=ifb (kvs.any fun kv=>kv.1=k) (kvs.map fun kv=>if kv.1=k then(kv.1,v)else kv) (kvs++[(k,v)])
inductive DicR(σ:Sg):V→Prop
 |i {v kvs}:IDic σ v kvs→DicR σ v
 |t {r kvs}:σ[r]?=some (.tdict kvs)→DicR σ (.ref r)
inductive GetR(σ:Sg):V→V→V→V→Prop
 |i {v kvs k d}:IDic σ v kvs→GetR σ v (.int k) d ((lookA kvs k).getD d)
 |t {r kvs k d t}:σ[r]?=some (.tdict kvs)→TkOf k t→noKey t kvs=true→GetR σ (.ref r) k d d
inductive SetR(σ:Sg):V→V→V→Sg→Prop
 |ls {r xs j v}:σ[r]?=some (.list xs)→j < xs.length→SetR σ (.ref r) (.int (.ofNat j)) v (σ.set r (.list (xs.set j v)))
 |i {r kvs k v}:σ[r]?=some (.idict kvs)→kvs.length < LIM→SetR σ (.ref r) (.int k) v (σ.set r (.idict (storedA kvs k v)))
 |s {r kvs k v}:σ[r]?=some (.sdict kvs)→kvs.length < LIM→SetR σ (.ref r) (.str k) v (σ.set r (.sdict (storedA kvs k v)))
 |t {r kvs k v t}:σ[r]?=some (.tdict kvs)→TkOf k t→noKey t kvs=true→kvs.length < 100→SetR σ (.ref r) k v (σ.set r (.tdict (kvs++[(k,v)])))
section
variable {X:Cx}{g:Gh}{σ:Sg}{s:Shared}{A:Around}
theorem lookA_getD{ps:List (Int × Value)}{kvs:List (Int × V)}(r:PReps g ps kvs)(k:Int){u:Value}{d:V}(hd:VRep g u d):VRep g ((valueAt ps k).getD u) ((lookA kvs k).getD d):=by
 rcases lookA_rep r k with⟨q,q'⟩|⟨y,v,h1,h2,h3⟩
 ·rw[q,q'];exact hd
 ·rw[h1,h2];exact h3
theorem f2_mem{xs:List (TK × Addr × Value)}{kvs:List (V × V)}(h:F2 (fun(x:TK × Addr × Value)(p:V × V)=>TkOf p.1 x.1) xs kvs):∀x∈xs,∃p∈kvs,TkOf p.1 x.1:=by
 induction h with
 |nil=>exact fun _ h=>nomatch h
 |cons h _ ih=>
  intro x hx
  rcases Qt.mp hx with rfl|hx
  ·exact⟨_,Qe,h⟩
  ·obtain⟨p,h1,h2⟩:=ih x hx
   exact⟨p,Qg _ h1,h2⟩
theorem atKey_none{xs:List (TK × Addr × Value)}{kvs:List (V × V)}{t:TK}(h:F2 (fun(x:TK × Addr × Value)(p:V × V)=>TkOf p.1 x.1) xs kvs)(hn:noKey t kvs=true):atKey xs t=none:=by
 unfold atKey
 rw[List.find?_eq_none.mpr fun x hx e=>?_]
 ·rfl
 ·obtain⟨p,h1,h2⟩:=f2_mem h x hx
  exact noKey_ hn h1 (QX e▸h2)
theorem any_rep{K:Type} [DecidableEq K]{ps:List (K × Value)}{kvs:List (K × V)}(r:PReps g ps kvs)(k:K):(ps.any fun kv=>kv.1=k)=(kvs.any fun kv=>kv.1=k):=by
 induction r with
 |nil=>rfl
 |cons h _ ih=>rw[List.any_cons,List.any_cons,ih,h.1]
theorem stored_rep{K:Type} [DecidableEq K]{ps:List (K × Value)}{kvs:List (K × V)}(r:PReps g ps kvs)(k:K){u:Value}{x:V}(rx:VRep g u x):PReps g (stored ps k u) (storedA kvs k x):=by
 unfold stored storedA
 rw[any_rep r k]
 cases(kvs.any fun kv=>kv.1=k)with
 |true=>
  show PReps g (ps.map _) (kvs.map _)
  induction r with
  |nil=>exact .nil
  | @cons p q ps kvs h _ ih=>
   refine .cons ?_ ih
   by_cases e:q.1=k
   ·dsimp only;rw[if_pos e,if_pos (h.1.trans e)];exact⟨h.1,rx⟩
   ·dsimp only;rw[if_neg e,if_neg fun w=>e (h.1.symm.trans w)];exact h
 |false=>exact F2.append r (.cons ⟨rfl,rx⟩ .nil)
theorem kn_iff{j k:Nat}(hj:j < 36)(hk:k < 36):decide (kn j=kn k)=decide (j=k):=decide_eq_decide.mpr ⟨kn_inj hj hk,congrArg kn⟩
theorem strKeys_stored{ps:List (Nat × Value)}{k:Nat}(hb:∀p∈ps,p.1 < 36)(hk:k < 36)(u:Value):stored (strKeys ps) (kn k) u=strKeys (stored ps k u):=by
 have hany:((strKeys ps).any fun kv=>kv.1=kn k)=(ps.any fun kv=>kv.1=k):=by
  unfold strKeys
  rw[List.any_map,Bool.eq_iff_iff,List.any_eq_true,List.any_eq_true]
  exact⟨fun⟨x,h1,h2⟩=>⟨x,h1,(kn_iff (hb x h1) hk).symm.trans h2⟩,fun⟨x,h1,h2⟩=>⟨x,h1,(kn_iff (hb x h1) hk).trans h2⟩⟩
 unfold stored
 rw[hany]
 split
 ·unfold strKeys
  rw[List.map_map,List.map_map]
  refine QL fun p hp=>?_
  by_cases e:p.1=k
  ·show(if kn p.1=kn k then(kn p.1,u)else(kn p.1,p.2))=(kn (if p.1=k then(p.1,u)else p).1,(if p.1=k then(p.1,u)else p).2)
   rw[if_pos e,if_pos (congrArg kn e)]
  ·show(if kn p.1=kn k then(kn p.1,u)else(kn p.1,p.2))=(kn (if p.1=k then(p.1,u)else p).1,(if p.1=k then(p.1,u)else p).2)
   rw[if_neg e,if_neg fun q=>e (kn_inj (hb p hp) hk q)]
 ·unfold strKeys;rw[List.map_append];rfl
theorem PReps.lt{ps:List (Nat × Value)}{kvs:List (Nat × V)}(r:PReps g ps kvs)(hb:∀p∈kvs,p.1 < 36):∀p∈ps,p.1 < 36:=by
 induction r with
 |nil=>exact fun _ h=>nomatch h
 |cons h _ ih=>
  intro p hp
  rcases Qt.mp hp with rfl|hp
  ·exact h.1▸hb _ Qe
  ·exact ih (fun p hp=>hb p (Qg _ hp)) p hp
theorem storedA_lt{kvs:List (Nat × V)}{k:Nat}{x:V}(hb:∀p∈kvs,p.1 < 36)(hk:k < 36):∀p∈storedA kvs k x,p.1 < 36:=by
 unfold storedA
 cases(kvs.any fun kv=>kv.1=k)with
 |true=>
  intro p hp
  obtain⟨q,hq,e⟩:=List.mem_map.mp hp
  subst e
  split
  ·exact hb q hq
  ·exact hb q hq
 |false=>
  intro p hp
  rcases QI.mp hp with h|h
  ·exact hb p h
  ·exact Qk.mp h▸hk
theorem op_append{a:Addr}{xs:List V}{u:Value}{x:V}{Q:Value→Shared→Prop}(hp:PList g s.heap a xs)(rx:VRep g u x)(h:xs.length < LIM)(k:∀h',PList g h' a (xs++[x])→Heap.SameBut a s.heap h'→Q .none {s with heap:=h'}):
  wpAny (model pw X.w) A (call (.builtin "list.append") [.ref a,u]) Q NoE s:=by
 obtain⟨⟨vs,hp,hr⟩,hl⟩:=hp
 refine wpAny_list_append_plain hp (fun h' q1 q2=>k h' ⟨⟨vs++[u],by rw[List.push_toArray]at q1;exact q1,hr.append (.cons rx .nil)⟩,by rw[Qb];exact h⟩ q2) ?_
 show vs.toArray.size≤16777216
 rw[Qo,hr.length];exact hl
theorem op_extend{a:Addr}{xs ys:List V}{u:Value}{Q:Value→Shared→Prop}(I:HInv X g σ s)(hp:PList g s.heap a xs)(rx:VRep g u (.tup ys))(h:xs.length+ys.length≤LIM)(k:∀h',PList g h' a (xs++ys)→Heap.SameBut a s.heap h'→Q .none {s with heap:=h'}):
  wpAny (model pw X.w) A (call (.builtin "list.extend") [.ref a,u]) Q NoE s:=by
 obtain⟨⟨vs,⟨n,ho⟩,hr⟩,hl⟩:=hp
 obtain⟨b,⟨cls,dd,data,sl⟩,ws,n2,rfl,hb,hc,hd,hq,hl2⟩:=rx.inv
 have hb:=I.frz _ _ hb
 cases hc;cases hd
 have hz:vs.toArray.size+ws.toArray.size≤sizeLine:=by show _≤16777216;rw[Qo,Qo,hr.length,hq.length];exact h
 refine call_meets PySem.F.slot_list_extend ⟨_,ho,rfl⟩ PySem.F.entry_list_extend (PySem.F.args_list_extend_2 _ _) (list_extendT a _ n b _ n2 dd sl (extend_door hz) (Qf (Qw _ _) hz) (Nat.le_succ_of_le hz)) ⟨ho,hb,?_⟩
 have:=upd_list (fun x=>x++ws.toArray) ho
 rw[List.append_toArray]at this
 exact k _ ⟨⟨vs++ws,this,hr.append hq⟩,Qb▸h⟩ (Heap.SameBut.update ..)
theorem op_setlist{a:Addr}{xs:List V}{u uk:Value}{x:V}{j:Nat}{Q:Unit→Shared→Prop}(hp:PList g s.heap a xs)(rk:VRep g uk (.int (.ofNat j)))(rx:VRep g u x)(h:j < xs.length)(k:∀h',PList g h' a (xs.set j x)→Heap.SameBut a s.heap h'→Q () {s with heap:=h'}):
  wpAny (model pw X.w) A (setItem (.ref a) uk u) Q NoE s:=by
 obtain⟨⟨vs,hp,hr⟩,hl⟩:=hp
 obtain⟨tk,rfl⟩:=rk.int_inv
 have hl':xs.length≤16777216:=hl
 refine setItem_plain hp (Int.natCast_nonneg j) (by lia) (by rw[Qo,hr.length];exact Int.ofNat_lt.mpr h) fun h' q1 q2=>k h' ⟨⟨vs.set j u,?_,hr.set rx j⟩,by rw[QP];exact hl⟩ q2
 rw[← List.setIfInBounds_toArray];exact q1
theorem DictOf_live{K:Type} [DecidableEq K]{w:World}{knd:PySem.KeyKind pw w K}{h:Heap}{a:Addr}{ps:List (K × Value)}(x:h.DictOf knd a ps):Live h a:=by
 obtain⟨o,_,_,q,_⟩:=x
 exact⟨o,q⟩
theorem op_seti{ua uk u:Value}{a k x:V}{σ':Sg}(I:HInv X g σ s)(hA:A.units+64 < cLine)(ra:VRep g ua a)(rk:VRep g uk k)(rx:VRep g u x)(e:SetR σ a k x σ'):wpAny (model pw X.w) A (setItem ua uk u) (fun _=>PU X g s.heap σ') NoE s:=by
 induction e with
 |ls h hj=>
  obtain⟨d,rfl,hd,hp⟩:=ra.obj I h
  exact op_setlist hp rk rx hj fun h' q1 q2=>PU.upd (t:=s.toks) I hd q2 q1 q1.live
 |i h hl=>
  obtain⟨d,rfl,hd,ps,hp,hr⟩:=ra.obj I h
  obtain⟨tk,rfl⟩:=rk.int_inv
  exact wpAny_setItem_pairs (knd:=intKind pw X.w) (by simp[intKind,Value.isInt]) hp (fun h' q1 q2=>PU.upd I hd q2 ⟨_,q1,stored_rep hr _ rx⟩ (DictOf_live q1)) (by rw[hr.length];exact Nat.le_of_lt hl)
 |s h hl=>
  obtain⟨d,rfl,hd,ps,hp,hr,hb⟩:=ra.obj I h
  obtain⟨tk,rfl,hn⟩:=rk.inv
  refine wpAny_setItem_pairs (knd:=PySem.strKind pw X.w) (k:=kn _) (by simp[PySem.strKind,Value.isStrOf];rfl) hp (fun h' q1 q2=>?_) (by unfold strKeys;rw[List.length_map,hr.length];exact Nat.le_of_lt hl)
  rw[strKeys_stored (hr.lt hb) hn]at q1
  exact PU.upd I hd q2 ⟨_,q1,stored_rep hr _ rx,storedA_lt hb hn⟩ (DictOf_live q1)
 | @t ri kvs k x t h ht hn hl=>
  obtain⟨d,rfl,hd,hT⟩:=ra.obj I h
  have hT:TRep g s.heap d kvs:=hT
  obtain⟨xs,hD,hf⟩:=hT.dictOf I
  obtain⟨a,rfl,ha⟩:=tk_is I rk ht
  refine wpAny_setItem_heap (knd:=tkKind X.w) (k:=t) (by show A.units+_+8 < cLine;lia) ha hD (fun h' q1 q2=>?_) (by rw[hf.length];exact Qf (Nat.le_of_lt hl) (show 100≤16777216 by decide))
  rw[storedH_new (atKey_none hf hn)]at q1
  obtain⟨o,es,ep,w1,w2,w3,w4,w5,w6⟩:=q1
  obtain⟨⟨o₀,es₀,ep₀,v1,v2,v3,v4⟩,nd⟩:=hT
  obtain⟨o₁,es₁,ep₁,z1,z2,z3,z4,z5⟩:=hD
  obtain rfl:o₀=o₁:=Ql (v1.symm.trans z1)
  have e:=v3.symm.trans z3
  injection e with e _
  subst e
  refine PU.upd I hd q2 ⟨⟨o,es₀++[⟨zHash t,.ref a,u⟩],ep,w1,w2,?_,v4.append (.cons ⟨⟨t,ht,rfl⟩,rk,rx⟩ .nil)⟩,?_⟩ ⟨o,w1⟩
  ·have w:es.toList=es₀++[⟨zHash t,.ref a,u⟩]:=by rw[w4,List.map_append,← z4];rfl
   rw[w3,← w]
  ·exact List.pairwise_append.mpr ⟨nd,List.pairwise_singleton _ _,fun p hp q hq t' h1 h2=>by
    obtain rfl:=Qk.mp hq
    obtain rfl:=tk_fn ht h2
    exact noKey_ hn hp h1⟩
end
section
variable {X:Wd}{d f:Nat}{Γ:Fc X d}{ρ ρ₁ ρ₂ ρ₃:Rho}{σ σ₁ σ₂ σ₃:Sg}{t t' t₀ t₁ t₂:St}{b:Addr}
structure Apart(Γ:Fc X d)(t:St)(b:Addr):Prop where
 fr:Free t.g b
 ow:∀j,t.α j≠some b
 pr:¬Priv Γ.env b
 lv:Live t.s.heap b
theorem Apart.step(x:Apart Γ t b)(st:Step Γ t t'):Apart Γ t' b:=⟨st.free x.fr x.lv x.ow,fun j e=>(st.newo j b e).elim (x.ow j) fun q=>dead_lv q.1 x.lv,x.pr,st.live b x.lv⟩
theorem Apart.keep(x:Apart Γ t b)(st:Step Γ t t'):Keep t.s.heap t'.s.heap b:=st.kept b x.fr.i x.ow fun e=>x.pr (.inl e)
noncomputable abbrev St.on(t:St)(h':Heap)(k:Tok):St:=⟨{t.s with heap:=h',toks:=k},t.g,t.α,t.m⟩
theorem FInv.quiet(x:FInv Γ ρ σ t){W:Addr→Prop}{h':Heap}{k:Tok}(hk:∀b,¬W b→Keep t.s.heap h' b)(hw:∀b,W b→Apart Γ t b):FInv Γ ρ σ (t.on h' k):=
 x.move (t':=t.on h' k) (x.h.same rfl rfl fun a ha=>hk a fun q=>ha.elim (hw a q).fr.i fun w=>w (hw a q).fr.f) rfl rfl (.refl _) (fun a ha=>hk a fun q=>ha.elim (hw a q).pr fun⟨i,w⟩=>(hw a q).ow i w) fun _ _ h _=>h
theorem Step.quiet(st:Step Γ t₀ t){W:Addr→Prop}{h':Heap}{k:Tok}(hk:∀b,¬W b→Keep t.s.heap h' b)(hw:∀b,W b→t₀.s.heap.get? b=none):Step Γ t₀ (t.on h' k) where
 le:=st.le
 live:=fun a ⟨o,e⟩=>by
  obtain⟨o',e'⟩:=st.live a ⟨o,e⟩
  exact⟨o',hk a (fun q=>nomatch (hw a q).symm.trans e) o' e'⟩
 kept:=fun a q1 q2 q3 o e=>hk a (fun q=>nomatch (hw a q).symm.trans e) o (st.kept a q1 q2 q3 o e)
 newi:=st.newi
 newo:=st.newo
 newf:=st.newf
theorem FInv.dead(x:FInv Γ ρ σ t){a:Addr}(h:t.s.heap.get? a=none):Free t.g a∧(∀j,t.α j≠some a)∧¬Priv Γ.env a:=⟨⟨(x.h.fresh h).2,(x.h.fresh h).1⟩,fun j e=>dead_lv h (x.ow j a e).2.2,fun q=>dead_lv h (x.pr a q).2.2⟩
theorem FInv.new(x:FInv Γ ρ σ t)(o:Obj)(hf:o.isFreed=false):Apart Γ (t.on (t.s.heap.push o) t.s.toks) t.s.heap.objs.size:=by
 obtain⟨h1,h2,h3⟩:=x.dead (get?_none_size t.s.heap)
 exact⟨h1,h2,h3,o,QF _ hf⟩
theorem Step.push{o:Obj}(st:Step Γ t₀ t):Step Γ t₀ (t.on (t.s.heap.push o) t.s.toks):=st.trans (FStep.up (FStep.grown fun _ _ e=>QD _ e))
theorem FInv.join(x:FInv Γ ρ σ t){m:MObj}(ha:Apart Γ t b)(hm:MRep X.X (t.g.al b) t.s.heap b m):FInv Γ ρ (σ++[m]) ⟨t.s,t.g.al b,t.α,t.m⟩:=
 x.move (t':=⟨t.s,t.g.al b,t.α,t.m⟩) (x.h.al ha.fr.f ha.fr.i ha.lv hm) rfl rfl .al (fun _ _ _ e=>e) fun a q hf _=>⟨fun w=>(Gh.al_of w).elim hf.i fun e=>q.elim (fun q=>ha.pr (e▸q)) fun⟨i,q⟩=>ha.ow i (e▸q),hf.f⟩
inductive PP(Γ:Fc X d)(ks:List Nat)(t:St)(r:List V × Rho × Sg):List (Value × Value)→Shared→Prop
 |mk {vs} (us t'):Carries (PySem.strKind pw X.X.w) vs (strKeys (ks.zip us))→FInv Γ r.2.1 r.2.2 t'→t'.m=t.m→VReps t'.g us r.1→Step Γ t t'→PP Γ ks t r vs t'.s
noncomputable def OkP(X:Wd)(d:Nat)(ks:List Nat)(es:Es)(ρ:Rho)(σ:Sg)(r:List V × Rho × Sg):Prop:=∀(Γ:Fc X d) keys xs p t,okK ks keys=true→okEs Γ.c es xs=true→FInv Γ ρ σ t→Wp Γ (evalPairs (pairTrees keys xs Γ.env p)) (PP Γ ks t r) t.s
theorem p_nil:OkP X d [] .nil ρ σ ([],ρ,σ):=by
 intro Γ keys xs p t hk hx I
 rw[emp hx,emp (α:=Option Expr) hk]
 exact pairTrees_nil_walk (.mk [] t trivial I rfl .nil (.refl ..))
theorem p_cons{e:E}{es:Es}{k:Nat}{ks:List Nat}{v:V}{vs:List V}(h1:OkE X d e ρ σ (v,ρ₁,σ₁))(h2:OkP X d ks es ρ₁ σ₁ (vs,ρ₂,σ₂)):OkP X d (k::ks) (.cons e es) ρ σ (v::vs,ρ₂,σ₂):=by
 intro Γ keys xs p t hk hx I
 obtain⟨x,ex,q1,q2,q3⟩:=cons_ hx
 obtain⟨k1,k2⟩:=band hk
 obtain⟨ko,ek,k3⟩:=hd_ k1
 obtain⟨kx,eo,k4⟩:=an_ k3
 obtain⟨c,n,q,rfl,k5⟩:=cst_ k4
 rw[ex,ek,eo]
 induction c<;>try exact ff k5
 cases Za k5
 refine pairTrees_cons_walk (wpAny_Constant_str (h1.go (t:=t.on t.s.heap (t.s.toks+1)) q1 (I.tok _) fun u t₁ I₁ m₁ R₁ s₁=>wpm (h2 Γ _ _ p t₁ k2 q3 I₁) fun us s q=>?_))
 exact PP.rec (r:=(vs,ρ₂,σ₂)) (motive:=fun s _=>PP Γ (k::ks) t (v::vs,ρ₂,σ₂) ((Value.str (kn k) t.s.toks,u)::us) s) (fun ws t₂ c I₂ m₂ R₂ s₂=>.mk (u::ws) t₂ ⟨by simp[PySem.strKind,Value.isStrOf],rfl,c⟩ I₂ (m₂.trans m₁) (.cons (R₁.mono s₂.le) R₂) (s₁.trans s₂)) q
theorem okK_:∀{ks:List Nat}{keys:List (Option Expr)},okK ks keys=true→keys.all (·.isSome)=true:=by
 intro ks
 induction ks with
 |nil=>intro keys h;rw[emp (α:=Option Expr) h];rfl
 |cons k ks ih=>
  intro keys h
  obtain⟨k1,k2⟩:=band h
  obtain⟨ko,ek,k3⟩:=hd_ k1
  obtain⟨kx,eo,_⟩:=an_ k3
  rw[ek,eo]
  exact(Bool.true_and _).trans (ih k2)
theorem kn_nodup{ks:List Nat}:ks.Nodup→(∀k∈ks,k < 36)→(ks.map kn).Nodup:=by
 induction ks with
 |nil=>exact fun _ _=>.nil
 |cons k ks ih=>
  intro hn hb
  obtain⟨h1,h2⟩:=QU.mp hn
  refine QU.mpr ⟨fun hm=>?_,ih h2 fun j hj=>hb j (Qg _ hj)⟩
  obtain⟨j,hj,e⟩:=List.mem_map.mp hm
  exact h1 (kn_inj (hb j (Qg _ hj)) (hb k Qe) e▸hj)
theorem zip_keys{g:Gh}{us:List Value}{xs:List V}(r:VReps g us xs):∀ks:List Nat,PReps g (ks.zip us) (ks.zip xs):=by
 induction r with
 |nil=>intro ks;induction ks<;>exact .nil
 |cons h _ ih=>
  intro ks
  induction ks with
  |nil=>exact .nil
  |cons k ks=>exact .cons ⟨rfl,h⟩ (ih ks)
theorem r_newd{ks:List Nat}{es:Es}{vs:List V}(h:OkP X d ks es ρ σ (vs,ρ₁,σ₁))(hl:vs.length=ks.length):OkE X d (.newd ks es) ρ σ (.ref σ₁.length,ρ₁,σ₁++[.sdict (ks.zip vs)]):=by
 intro Γ x t hx I
 obtain⟨e,hx⟩:=isE_ hx rfl
 obtain⟨hx,q3⟩:=band hx
 obtain⟨q1,q2⟩:=band hx
 obtain⟨w1,w2,w3,w4,w5,w6⟩:=QX q3
 have D:=Heap.DictOf.new (knd:=PySem.strKind pw X.X.w) t.s.heap
 rw[e]
 refine wpAny_Dict_walk (knd:=PySem.strKind pw X.X.w) (okK_ q1) w2 (fun e=>w4 (List.length_eq_zero_iff.mp (w1.trans (congrArg List.length e)))) (w1▸w5) ?_
 refine wpm (h Γ _ _ _ (t.on (t.s.heap.push {cls:=.type "dict",data:=.dict #[]}) t.s.toks) q1 q2 (I.push _)) fun us s q=>?_
 obtain⟨ws,t₁,c,I₁,m₁,R₁,s₁⟩:=q
 have ap:=(I.new {cls:=.type "dict",data:=.dict #[]} rfl).step s₁
 have kd:(strKeys (ks.zip ws)).map (·.1)=ks.map kn:=by
  unfold strKeys
  rw[List.map_map]
  exact(List.map_map (f:=Prod.fst) (g:=kn) (l:=ks.zip ws)).symm.trans (congrArg (List.map kn) (List.map_fst_zip (by rw[R₁.length,hl];exact Qd _)))
 refine⟨strKeys (ks.zip ws),c,DictOf_keep ((I.new {cls:=.type "dict",data:=.dict #[]} rfl).keep s₁) D,fun h' hd hs=>?_⟩
 rw[merged_nil_of_nodup]at hd
 case hn=>rw[kd];exact kn_nodup w3 w6
 have hk:∀b,¬b=t.s.heap.objs.size→Keep t₁.s.heap h' b:=fun b hb o e=>(hs.2 b hb).trans e
 have J:=I₁.quiet (W:=(·=t.s.heap.objs.size)) (h':=h') (k:=t₁.s.toks+us.length) hk fun b hb=>hb▸ap
 have st:=Step.quiet (t₀:=t) (((Step.push (Γ:=Γ) (t₀:=t) (.refl ..)).trans s₁)) (W:=(·=t.s.heap.objs.size)) (h':=h') (k:=t₁.s.toks+us.length) hk fun b hb=>hb▸get?_none_size _
 have ap2:Apart Γ (t₁.on h' (t₁.s.toks+us.length)) t.s.heap.objs.size:=⟨ap.fr,ap.ow,ap.pr,DictOf_live hd⟩
 have mr:MRep X.X (t₁.g.al t.s.heap.objs.size) h' t.s.heap.objs.size (.sdict (ks.zip vs)):=⟨ks.zip ws,hd,(zip_keys R₁ ks).mono .al,fun p hp=>w6 p.1 (List.of_mem_zip hp).1⟩
 refine .mk ⟨{t₁.s with heap:=h',toks:=t₁.s.toks+us.length},t₁.g.al t.s.heap.objs.size,t₁.α,t₁.m⟩ (J.join ap2 mr) m₁ (.ref (I₁.h.len▸t₁.g.al_self _)) ⟨st.le.trans .al,st.live,st.kept,fun a q=>(Gh.al_of q).elim (st.newi a) fun q=>.inr (q▸get?_none_size _),st.newo,st.newf⟩
end
inductive DicI(s:Shared)(u:Value):Prop
 |mk (a o):u=.ref a→s.heap.get? a=some o→o.ExactDict→(a==sysModules)=false→DicI s u
section
variable {X:Wd}{d f:Nat}{Γ:Fc X d}{ρ ρ₁ ρ₂ ρ₃:Rho}{σ σ₁ σ₂ σ₃:Sg}{t t' t₀ t₁ t₂:St}
theorem DicR.inv{g:Gh}{s:Shared}{v:V}{u:Value}(h:DicR σ v)(I:HInv X.X g σ s)(r:VRep g u v):DicI s u:=by
 induction h with
 |i h=>
  obtain⟨a,ps,e,⟨o,es,ep,w1,w2,w3,_⟩,_,hs⟩:=h.inv X.B I r
  exact⟨a,o,e,w1,w2,hs⟩
 |t h=>
  obtain⟨a,e,hi,⟨o,es,ep,w1,w2,_⟩,_⟩:=r.obj I h
  exact⟨a,o,e,w1,w2,ne_sys X.B.sys I hi⟩
inductive GetI(X:Cx)(g:Gh)(h:Heap)(da:Addr)(uk ud:Value)(w:V):Prop
 |i (k M):uk.isInt k=true→h.MapOf (intKind pw X.w) da M→VRep g ((M k).getD ud) w→GetI X g h da uk ud w
inductive GetT(X:Cx)(g:Gh)(h:Heap)(da:Addr)(uk ud:Value)(w:V):Prop
 |t (ka tk xs):uk=.ref ka→IsTK X.w h tk ka→h.DictOfH (tkKind X.w) da xs→atKey xs tk=none→VRep g ud w→GetT X g h da uk ud w
noncomputable abbrev GetA(X:Cx)(σ:Sg)(v kv dv:V)(P:Gh→Heap→Addr→Value→Value→Prop):Prop:=∀g s da uk ud,HInv X g σ s→VRep g (.ref da) v→VRep g uk kv→VRep g ud dv→P g s.heap da uk ud
theorem GetR.inv{X:Cx}(B:BaseOK X){v kv dv w:V}(h:GetR σ v kv dv w):GetA X σ v kv dv (GetI X · · · · · w)∨GetA X σ v kv dv (GetT X · · · · · w):=by
 induction h with
 | @i _ _ k _ h=>
  refine .inl fun g s da uk ud I r rk rd=>?_
  obtain⟨a,ps,e,hp,hr,hs⟩:=h.inv B I r
  obtain⟨tk,rfl⟩:=rk.int_inv
  cases e
  exact .i k _ (by simp[Value.isInt]) hp.mapOf (lookA_getD hr k rd)
 | @t _ _ _ _ tk h ht hn=>
  refine .inr fun g s da uk ud I r rk rd=>?_
  obtain⟨a,e,_,hT⟩:=r.obj I h
  cases e
  obtain⟨xs,hD,hf⟩:=TRep.dictOf I hT
  obtain⟨ka,e,hka⟩:=tk_is I rk ht
  exact .t ka tk xs e hka hD (atKey_none hf hn) rd
theorem r_get{a k e:E}{v kv dv w:V}(h1:OkE X d a ρ σ (v,ρ₁,σ₁))(hd:DicR σ₁ v)(h2:OkE X d k ρ₁ σ₁ (kv,ρ₂,σ₂))(h3:OkE X d e ρ₂ σ₂ (dv,ρ₃,σ₃))(g:GetR σ₃ v kv dv w):OkE X d (.get a k e) ρ σ (w,ρ₃,σ₃):=by
 intro Γ x t hx I
 replace hx:=methN_ hx;obtain⟨y,ap,l,q,rfl,hl,hx⟩:=hx
 obtain⟨hx,q4⟩:=band hx
 obtain⟨hx,q3⟩:=band hx
 obtain⟨q1,q2⟩:=band hx
 obtain⟨z,ez,q5⟩:=hd_ (l:=l) q3
 obtain⟨q5,q6⟩:=band q5
 obtain⟨z',ez',q7,q8⟩:=one_ (l:=l.tail) q4
 rw[ez,ez']
 refine Call_method2 (attributeBase_of q2) (by rw[starEach_cons q6,starEach_cons q8];rfl) hl (h1.go q1 I fun ov t₁ I₁ m₁ R₁ s₁=>?_)
 obtain⟨da,o,rfl,w1,w2,w3⟩:=hd.inv I₁.h R₁
 refine⟨"dict","dict.get",F.plainAttrs_dict,F.slot_dict_get,F.type_dict_get,⟨o,w1,w2.1⟩,fun b hb=>by cases hb;exact⟨o,w1,w2.2.1⟩,?_⟩
 have run:∀P:Value→Value→Shared→Prop,(∀uk ud t₃,FInv Γ ρ₃ σ₃ t₃→t₃.m=t.m→Step Γ t t₃→VRep t₃.g (.ref da) v→VRep t₃.g uk kv→VRep t₃.g ud dv→P uk ud t₃.s)→Wp Γ (eval z Γ.env) (fun uk=>Wp Γ (eval z' Γ.env) (P uk)) t₁.s:=fun P kk=>h2.go q5 I₁ fun uk t₂ I₂ m₂ R₂ s₂=>h3.go q7 I₂ fun ud t₃ I₃ m₃ R₃ s₃=>kk uk ud t₃ I₃ (m₃.trans (m₂.trans m₁)) ((s₁.trans s₂).trans s₃) (R₁.mono (s₂.le.trans s₃.le)) (R₂.mono s₃.le) R₃
 have no:(da==sysModules)=false:=w3
 rcases g.inv X.B with g|g
 ·refine wpAny_dict_get2 (knd:=intKind pw X.X.w) no (run _ fun uk ud t₃ I₃ m₃ s₃ r rk rd=>?_)
  obtain⟨k,M,e1,e2,e3⟩:=g _ _ _ _ _ I₃.h r rk rd
  exact⟨k,M,e1,e2,.mk ⟨_,t₃.g,t₃.α,t₃.m⟩ (I₃.tok _) m₃ e3 s₃⟩
 ·refine wpAny_dict_get2_heap (knd:=tkKind X.X.w) (by show Γ.A.units+1+8 < cLine;have:=Γ.uni;lia) no (run _ fun uk ud t₃ I₃ m₃ s₃ r rk rd=>?_)
  obtain⟨ka,tk,xs,e1,e2,e3,e4,e5⟩:=g _ _ _ _ _ I₃.h r rk rd
  exact⟨ka,tk,xs,e1,e2,e3,.mk ⟨_,t₃.g,t₃.α,t₃.m⟩ (I₃.tok _) m₃ (by rw[e4];exact e5) s₃⟩
theorem wp_store{i:Nat}{n:Str}{u:Value}{v:V}{Q:Unit→Shared→Prop}(hl:isLoc Γ.c i n=true)(I:FInv Γ ρ σ t)(R:VRep t.g u v)(st:Step Γ t₀ t)(k:∀t',FInv Γ (ρ.put i (.v v)) σ t'→Step Γ t₀ t'→Q () t'.s):Wp Γ (storeName Γ.env n u) Q t.s:=
 wpAny_storeName_local (Γ.K▸(loc_ hl).2) I.ns (fun h' hN hs=>by
  obtain⟨J,st'⟩:=I.store (k:=t.s.toks+1) (α':=t.α.drop i) hl hN hs (fun j hj=>Al.drop_ne hj) (.v R) (fun a e=>absurd rfl (Al.drop_some e).1) st fun a e=>absurd rfl (Al.drop_some e).1
  exact k _ J st') (by rw[Γ.ok.kind];rfl)
theorem wp_storeO{i:Nat}{n:Str}{a:Addr}{xs:List V}{Q:Unit→Shared→Prop}(hl:isLoc Γ.c i n=true)(h0:i≠0)(I:FInv Γ ρ σ t)(ha:Apart Γ t a)(hp:PList t.g t.s.heap a xs)(st:Step Γ t₀ t)(hd:t₀.s.heap.get? a=none)(k:∀t',FInv Γ (ρ.put i (.o xs)) σ t'→Step Γ t₀ t'→Q () t'.s):Wp Γ (storeName Γ.env n (.ref a)) Q t.s:=
 wpAny_storeName_local (Γ.K▸(loc_ hl).2) I.ns (fun h' hN hs=>by
  have e:∀b,t.α.set i a i=some b→b=a:=fun b e=>(Ql ((if_pos rfl).symm.trans e)).symm
  obtain⟨J,st'⟩:=I.store (k:=t.s.toks+1) (α':=t.α.set i a) hl hN hs (fun j hj=>if_neg hj) (.o a rfl (if_pos rfl) hp) (fun b q=>e b q▸⟨⟨xs,rfl⟩,ha.fr,ha.lv,fun j _=>ha.ow j,ha.pr⟩) st fun b q=>⟨e b q▸hd,h0⟩
  exact k _ J st') (by rw[Γ.ok.kind];rfl)
theorem s_asg{i:Nat}{e:E}{v:V}(h:OkE X d e ρ σ (v,ρ₁,σ₁)):OkS X d (.asg i e) ρ σ (.next,ρ₁.put i (.v v),σ₁):=by
 intro Γ x t hx I
 replace hx:=asg_ hx;obtain⟨ta,va,q,rfl,hx⟩:=hx
 obtain⟨hx,q3⟩:=band hx
 obtain⟨q1,q2⟩:=band hx
 obtain⟨n,p,rfl,hl⟩:=nam_ q1
 exact wpAny_Assign_Name (h.go q2 I fun u t₁ I₁ m₁ R₁ s₁=>wp_store hl I₁ R₁ s₁ fun t' J st=>PS.next J st) (swaps_no q3)
theorem s_asgl{i:Nat}{es:Es}{vs:List V}(h:OkL X d es ρ σ (vs,ρ₁,σ₁)):OkS X d (.asgl i es) ρ σ (.next,ρ₁.put i (.o vs),σ₁):=by
 intro Γ x t hx I
 replace hx:=asg_ hx;obtain⟨ta,va,q,rfl,hx⟩:=hx
 obtain⟨hx,q3⟩:=band hx
 obtain⟨q1,q2⟩:=band hx
 obtain⟨n,p,rfl,hl⟩:=nam_ q1
 obtain⟨e,q4⟩:=isE_ q3 rfl
 rw[e]
 refine wpAny_Assign_Name (List_ (disp h q4 I fun us t₁ I₁ m₁ R l s₁=>?_)) (swaps_no rfl)
 have hp:=PList.mk (g:=t₁.g) (h:=t₁.s.heap.push {cls:=.type "list",data:=.seq us.toArray}) (a:=t₁.s.heap.objs.size) ⟨us,⟨0,QF _ rfl⟩,R⟩ l
 exact wp_storeO (t:=t₁.on (t₁.s.heap.push {cls:=.type "list",data:=.seq us.toArray}) t₁.s.toks) hl (QX q2) (I₁.push _) (I₁.new _ rfl) hp s₁.push (none_of_live s₁.live (get?_none_size _)) fun t' J st=>PS.next J st
theorem s_asgt{i:Nat}{e:E}{xs:List V}(h:OkE X d e ρ σ (.tup xs,ρ₁,σ₁)):OkS X d (.asgt i e) ρ σ (.next,ρ₁.put i (.o xs),σ₁):=by
 intro Γ x t hx I
 replace hx:=asg_ hx;obtain⟨ta,va,q,rfl,hx⟩:=hx
 obtain⟨hx,q3⟩:=band hx
 obtain⟨q1,q2⟩:=band hx
 obtain⟨n,p,rfl,hl⟩:=nam_ q1
 obtain⟨m,p',l,q',rfl,q4⟩:=callN_ q3
 obtain⟨q5,q6⟩:=band q4
 obtain⟨z,ez,q7,q8⟩:=one_ (l:=l) q6
 rw[ez]
 refine wpAny_Assign_Name (wpAny_Call_Name_kw (wp_glob I q5 fun u hu=>?_)) (swaps_no rfl)
 cases hu
 rw[starEach_cons q8]
 refine PySem.callWith_type1 (h.go q7 I fun u t₁ I₁ m₁ R₁ s₁=>?_)
 obtain⟨a,o,vs,k,rfl,w1,w2,w3,w4,w5⟩:=R₁.inv
 refine call_list_seq (hsz:=sz_ w4 w5) a (.inr rfl) (I₁.h.frz _ _ w1) w2 w3 fun h' c' hk hD=>?_
 have hp:=PList.mk (g:=t₁.g) (h:=h') ⟨vs,⟨c',hD⟩,w4⟩ w5
 obtain⟨f1,f2,f3⟩:=I₁.dead (get?_none_size t₁.s.heap)
 exact wp_storeO (t:=t₁.on h' t₁.s.toks) hl (QX q2) (I₁.lift (I₁.h.grown (t:=t₁.s.toks) hk) (.grown hk)) ⟨f1,f2,f3,hp.live⟩ hp (s₁.trans (FStep.up (FStep.grown hk))) (none_of_live s₁.live (get?_none_size _)) fun t' J st=>PS.next J st
end
section
variable {X:Wd}{d f:Nat}{Γ:Fc X d}{ρ ρ₁ ρ₂ ρ₃:Rho}{σ σ₁ σ₂ σ₃:Sg}{t t' t₀ t₁ t₂:St}
noncomputable def unp:List Nat→List V→Rho→Rho
 |i::is,x::xs,ρ=>unp is xs (ρ.put i (.v x))
 |_,_,ρ=>ρ
theorem cons_N{c:Mt}{i:Nat}{is:List Nat}{l:List Expr}(h:okNs c (i::is) l=true):∃n p,l=.Name n p::l.tail∧isLoc c i n=true∧okNs c is l.tail=true:=by
 obtain⟨h1,h2⟩:=band h
 obtain⟨y,e,h3⟩:=hd_ (l:=l) h1
 obtain⟨n,p,rfl,h4⟩:=nam_ h3
 exact⟨n,p,e,h4,h2⟩
theorem wp_names{us:List Value}{xs:List V}(R:VReps t.g us xs):∀{is:List Nat}{l:List Expr}{ρ:Rho}{t':St}{Q:Unit→Shared→Prop},okNs Γ.c is l=true→is.length=xs.length→FInv Γ ρ σ t'→Step Γ t t'→(∀t'',FInv Γ (unp is xs ρ) σ t''→Step Γ t t''→Q () t''.s)→Wp Γ (assignInOrder ((assignEach l Γ.env).map (·.2)) us) Q t'.s:=by
 induction R with
 |nil=>
  intro is l ρ t' Q ho hl I st k
  obtain rfl:=List.length_eq_zero_iff.mp hl
  rw[emp ho]
  exact QW (k t' I st)
 | @cons u x us xs r _ ih=>
  intro is l ρ t' Q ho hl I st k
  induction is with
  |nil=>exact nomatch hl
  |cons i is=>
   obtain⟨n,p,e,h1,h2⟩:=cons_N ho
   rw[e]
   show Wp Γ (assignInOrder (assign (.Name n p) Γ.env::(assignEach l.tail Γ.env).map (·.2)) (u::us)) Q t'.s
   rw[assignInOrder]
   exact QV (wpAny_holding (assign_Name (wp_store h1 I (r.mono st.le) st fun t'' J st'=>ih h2 (Nat.succ.inj hl) J st' k)))
theorem okNs_plain{c:Mt}{env:Env}:∀{is:List Nat}{l:List Expr},okNs c is l=true→(assignEach l env).length=is.length∧(assignEach l env).findIdx? (·.1)=none:=by
 intro is
 induction is with
 |nil=>intro l h;rw[emp h];exact⟨rfl,rfl⟩
 |cons i is ih=>
  intro l h
  obtain⟨n,p,e,_,h2⟩:=cons_N h
  obtain⟨q1,q2⟩:=ih h2
  rw[e]
  refine⟨congrArg (·+ 1) q1,?_⟩
  show List.findIdx? (·.1) ((false,_)::assignEach l.tail env)=none
  rw[List.findIdx?_cons,q2]
  rfl
theorem wp_tup{is:List Nat}{l:List Expr}{kn:Nat}{p:Pos}{u:Value}{xs:List V}{Q:Unit→Shared→Prop}(ho:okNs Γ.c is l=true)(hl:is.length=xs.length)(I:FInv Γ ρ σ t)(R:VRep t.g u (.tup xs))(k:∀t',FInv Γ (unp is xs ρ) σ t'→Step Γ t t'→Q () t'.s):Wp Γ (assign (.Tuple l kn p) Γ.env u) Q t.s:=by
 obtain⟨a,vs,rfl,ht,hr,hz⟩:=R.tui I.h
 obtain⟨q1,q2⟩:=okNs_plain (env:=Γ.env) ho
 show Wp Γ (do standAt p;unpack (.ref a) (assignEach l Γ.env)) Q t.s
 refine QV (wpAny_standAt (unpack_tuple Γ.hd ht ?_ q2 fun h' he=>?_))
 ·rw[q1,hl,Qo,hr.length]
 ·have hk:∀a,Keep t.s.heap h' a:=fun a o e=>he a o (by rintro rfl;exact nomatch (get?_none_size _).symm.trans e) e
  have st:Step Γ t (t.on h' t.s.toks):=FStep.up (FStep.grown hk)
  exact wp_names hr ho hl (I.lift (I.h.grown (t:=t.s.toks) hk) (.grown hk)) st k
theorem sole_no{t v:Expr}{l:Nat}{env:Env}(h:notComp v=true):swapsWithSole [t] v l env=pure false:=by
 rw[swapsWithSole];exact swaps_no h
theorem swapped_no{elts:List Expr}{k:Nat}{tp:Pos}{v:Expr}{env:Env}(h:notTup v=true):swappedStores [.Tuple elts k tp] v env=pure none:=by
 cases v<;>first|rfl|exact nomatch h
theorem s_unp{is:List Nat}{e:E}{xs:List V}(h:OkE X d e ρ σ (.tup xs,ρ₁,σ₁))(hl:is.length=xs.length):OkS X d (.unp is e) ρ σ (.next,unp is xs ρ₁,σ₁):=by
 intro Γ x t hx I
 replace hx:=asg_ hx;obtain⟨ta,va,q,rfl,hx⟩:=hx
 obtain⟨hx,q4⟩:=band hx
 obtain⟨hx,q3⟩:=band hx
 obtain⟨q1,q2⟩:=band hx
 obtain⟨e,q5⟩:=isE_ q1 rfl
 rw[e]
 exact Assign_Tuple (h.go q2 I fun u t₁ I₁ m₁ R₁ s₁=>wp_tup q5 hl I₁ R₁ fun t' J st=>PS.next J (s₁.trans st)) (sole_no q3) (swapped_no q4)
theorem s_seti{a k v:E}{va vk x:V}(h3:OkE X d v ρ σ (x,ρ₁,σ₁))(h1:OkE X d a ρ₁ σ₁ (va,ρ₂,σ₂)){σ':Sg}(h2:OkE X d k ρ₂ σ₂ (vk,ρ₃,σ₃))(g:SetR σ₃ va vk x σ'):OkS X d (.seti a k v) ρ σ (.next,ρ₃,σ'):=by
 intro Γ z t hx I
 replace hx:=asg_ hx;obtain⟨ta,w,q,rfl,hx⟩:=hx
 obtain⟨hx,q3⟩:=band hx
 obtain⟨q1,q2⟩:=band hx
 obtain⟨e,q4⟩:=isE_ q2 rfl
 obtain⟨q4,q7⟩:=band q4
 obtain⟨q5,q6⟩:=band q4
 rw[e]
 exact wpAny_Assign_Subscript (h3.go q1 I fun u t₁ I₁ m₁ R₁ s₁=>h1.go q5 I₁ fun ua t₂ I₂ m₂ R₂ s₂=>h2.go q6 I₂ fun uk t₃ I₃ m₃ R₃ s₃=>PS.post I₃ ((s₁.trans s₂).trans s₃) (op_seti I₃.h (by have:=Γ.uni;lia) (R₂.mono s₃.le) R₃ (R₁.mono (s₂.le.trans s₃.le)) g) fun _ _ q=>q) (swaps_no q3)
theorem s_setl{i j:Nat}{k v:E}{x:V}{xs ys:List V}(h3:OkE X d v ρ σ (x,ρ₁,σ₁))(e:ρ₁.get i=some (.o xs))(h2:OkE X d k ρ₁ σ₁ (.int (.ofNat j),ρ₂,σ₂))(e':ρ₂.get i=some (.o ys))(hj:j < ys.length):OkS X d (.setl i k v) ρ σ (.next,ρ₂.put i (.o (ys.set j x)),σ₂):=by
 intro Γ z t hx I
 replace hx:=asg_ hx;obtain⟨ta,w,q,rfl,hx⟩:=hx
 obtain⟨hx,q3⟩:=band hx
 obtain⟨q1,q2⟩:=band hx
 obtain⟨ez,q4⟩:=isE_ q2 rfl
 obtain⟨q4,q7⟩:=band q4
 obtain⟨q5,q6⟩:=band q4
 obtain⟨n,p,en,hl⟩:=nam_ q5
 rw[ez,en]
 refine wpAny_Assign_Subscript (h3.go q1 I fun u t₁ I₁ m₁ R₁ s₁=>?_) (swaps_no q3)
 obtain⟨_,a,w1,w2,w3,_⟩:=I₁.own e
 obtain rfl:=sij ((loc_ hl).1.symm.trans w1)
 refine wp_slot I₁ w1 w2 (h2.go q6 I₁ fun uk t₃ I₃ m₃ R₃ s₃=>?_)
 obtain⟨u1,u2⟩:=own_same hl w2 I₃ m₃ e'
 refine op_setlist u2 R₃ (R₁.mono s₃.le) hj fun h' z1 z2=>?_
 obtain⟨J,st⟩:=I₃.upd (k:=t₃.s.toks) e' u1 z1 z2
 exact PS.next J ((s₁.trans s₃).trans st)
theorem s_aug{i:Nat}{e:E}{a b:Int}(ha:ρ.get i=some (.v (.int a)))(h:OkE X d e ρ σ (.int b,ρ₁,σ₁)):OkS X d (.aug i e) ρ σ (.next,ρ₁.put i (.v (.int (a+b))),σ₁):=by
 intro Γ x t hx I
 obtain⟨ex,hx⟩:=isS_ hx rfl
 obtain⟨hx,q3⟩:=band hx
 obtain⟨q1,q2⟩:=band hx
 obtain⟨n,p,en,hl⟩:=nam_ q1
 rw[ex,en,QX q2]
 obtain⟨n',v,w1,w2,w3⟩:=I.sl i _ ha
 obtain rfl:=sij ((loc_ hl).1.symm.trans w1)
 cases w3 with
 |v w3=>
 obtain⟨ta,rfl⟩:=w3.int_inv
 refine wpAny_AugAssign_Name (wpAny_loadName_local Γ.ok.kind (Γ.K▸(loc_ hl).2) I.ns (w2.loc_ hl) (h.go q3 I fun u t₁ I₁ m₁ R₁ s₁=>?_))
 obtain⟨tb,rfl⟩:=R₁.int_inv
 exact PySem.P.iadd_int (wp_store (t:=t₁.on t₁.s.heap (t₁.s.toks+1)) hl (I₁.tok _) (.int ..) s₁ fun t' J st=>PS.next J st)
theorem s_ex{e:E}{v:V}(h:OkE X d e ρ σ (v,ρ₁,σ₁)):OkS X d (.ex e) ρ σ (.next,ρ₁,σ₁):=by
 intro Γ x t hx I
 obtain⟨ex,hx⟩:=isS_ hx rfl
 obtain⟨q1,q2⟩:=band hx
 rw[ex]
 exact wpAny_Expr_any (h.go q1 I fun u t₁ I₁ m₁ R₁ s₁=>PS.next I₁ s₁) (by unfold interactive;rw[Γ.ok.kind];rfl) (swaps_no q2)
theorem s_iff{c:E}{a b:Ss}{v:Bool}{r:Fl × Rho × Sg}(h:OkT X d c ρ σ (v,ρ₁,σ₁))(h1:OkB X d (@Bool.rec (fun _=>Ss) b a v) ρ₁ σ₁ r):OkS X d (.iff c a b) ρ σ r:=by
 intro Γ x t hx I
 obtain⟨ex,hx⟩:=isS_ hx rfl
 obtain⟨hx,q3⟩:=band hx
 obtain⟨q1,q2⟩:=band hx
 rw[ex]
 refine wpAny_If (h.go q1 I fun t₁ I₁ m₁ s₁=>?_)
 induction v with
 |true=>exact h1.go q2 I₁ fun f t₂ I₂ R₂ s₂=>.mk t₂ I₂ R₂ (s₁.trans s₂)
 |false=>exact h1.go q3 I₁ fun f t₂ I₂ R₂ s₂=>.mk t₂ I₂ R₂ (s₁.trans s₂)
theorem s_ret{e:E}{v:V}(h:OkE X d e ρ σ (v,ρ₁,σ₁)):OkS X d (.ret e) ρ σ (.ret v,ρ₁,σ₁):=by
 intro Γ x t hx I
 obtain⟨ex,hx⟩:=isS_ hx rfl
 obtain⟨y,ey,hx⟩:=an_ hx
 rw[ex,ey]
 exact wpAny_Return_some (h.go hx I fun u t₁ I₁ m₁ R₁ s₁=>.mk t₁ I₁ (.ret R₁) s₁)
theorem s_ret0:OkS X d .ret0 ρ σ (.ret .none,ρ,σ):=by
 intro Γ x t hx I
 obtain⟨ex,hx⟩:=isS_ hx rfl
 rw[ex,nn hx]
 exact wpAny_Return_none (.mk t I (.ret .none) (.refl ..))
theorem s_brk:OkS X d .brk ρ σ (.brk,ρ,σ):=by
 intro Γ x t hx I
 rw[(isS_ hx rfl).1]
 exact wpAny_Break (.mk t I .brk (.refl ..))
theorem s_cont:OkS X d .cont ρ σ (.cont,ρ,σ):=by
 intro Γ x t hx I
 rw[(isS_ hx rfl).1]
 exact wpAny_Continue (.mk t I .cont (.refl ..))
theorem b_nil:OkB X d .nil ρ σ (.next,ρ,σ):=by
 intro Γ x t hx I
 rw[emp hx]
 exact wpAny_execs_nil (PS.next I (.refl ..))
theorem cons_S{c:Mt}{s:S}{ss:Ss}{l:List Stmt}(h:okSs c (.cons s ss) l=true):∃x,l=x::l.tail∧okS c s x=true∧okSs c ss l.tail=true:=by
 obtain⟨h1,h2⟩:=band h
 obtain⟨y,e,h3⟩:=hd_ (l:=l) h1
 exact⟨y,e,h3,h2⟩
theorem b_cons{s:S}{ss:Ss}{r:Fl × Rho × Sg}(h1:OkS X d s ρ σ (.next,ρ₁,σ₁))(h2:OkB X d ss ρ₁ σ₁ r):OkB X d (.cons s ss) ρ σ r:=by
 intro Γ x t hx I
 obtain⟨y,e,q1,q2⟩:=cons_S hx
 rw[e]
 refine wpAny_execs_cons (wpm (h1 Γ y t q1 I) fun f s q=>?_)
 obtain⟨t₁,I₁,fr,s₁⟩:=q
 cases fr
 exact h2.go q2 I₁ fun f t₂ I₂ R₂ s₂=>.mk t₂ I₂ R₂ (s₁.trans s₂)
inductive Out:Fl→Prop
 |brk:Out .brk
 |cont:Out .cont
 |ret (v):Out (.ret v)
theorem b_out{s:S}{ss:Ss}{f:Fl}(h1:OkS X d s ρ σ (f,ρ₁,σ₁))(h:Out f):OkB X d (.cons s ss) ρ σ (f,ρ₁,σ₁):=by
 intro Γ x t hx I
 obtain⟨y,e,q1,q2⟩:=cons_S hx
 rw[e]
 refine wpAny_execs_cons (wpm (h1 Γ y t q1 I) fun f s q=>?_)
 obtain⟨t₁,I₁,fr,s₁⟩:=q
 cases h<;>cases fr
 ·exact .mk t₁ I₁ .brk s₁
 ·exact .mk t₁ I₁ .cont s₁
 ·exact .mk t₁ I₁ (.ret ‹_›) s₁
end
section
variable {X:Wd}{d f:Nat}{Γ:Fc X d}{ρ ρ₁ ρ₂ ρ₃:Rho}{σ σ₁ σ₂ σ₃:Sg}{t t' t₀ t₁ t₂:St}
theorem sMeth_{x:Stmt}{m:Str}{f:Expr→List Expr→Bool}(h:sMeth x m f=true):∃y p,x=.Expr y p∧MethI y m f:=by
 obtain⟨e,h⟩:=isS_ (x:=x) (n:=24) (f:=fun u=>methN u.e1 m f) (by with_unfolding_all exact h) rfl
 exact⟨_,_,e,methN_ h⟩
theorem wp_listMeth{mm id:String}(slot:Slot "list" (Str.ofString mm) id)(hty:typeOf (.builtin id)=pure (.type "method_descriptor")){o:Expr}{l:List Expr}{f:Expr→Bool}{ap pos q:Pos}{Q:Flow→Shared→Prop}(hb:baseOk o=true)(ho:one l f=true)(hl:(ap.endLine==pos.line)=true)
  (h:∀e,f e=true→Wp Γ (eval o Γ.env) (fun ov s₁=>∃D its,ov=.ref D∧s₁.heap.PlainList D its∧Wp Γ (eval e Γ.env) (fun y s₂=>Wp Γ (call (.builtin id) [.ref D,y]) (fun _ s=>Q .next s) s₂) s₁) t.s):
  Wp Γ (exec (.Expr (.Call (.Attribute o (Str.ofString mm) ap) l [] pos) q) Γ.env) Q t.s:=by
 obtain⟨e,el,h1,h2⟩:=one_ ho
 rw[el]
 refine wpAny_Expr_any (Call_method1 (attributeBase_of hb) (by rw[starEach_cons h2];rfl) hl (wpm (h e h1) fun ov s₁ q=>?_)) (by unfold interactive;rw[Γ.ok.kind];rfl) (swaps_no rfl)
 obtain⟨D,its,rfl,⟨k,hp⟩,hc⟩:=q
 exact⟨"list",id,F.plainAttrs_list,slot,hty,⟨_,hp,rfl⟩,fun a ha=>by cases ha;exact⟨_,hp,rfl⟩,callWith_builtin rfl (evalArgs_plain (spliced_cons (QY hc (fun _ _ q=>spliced_nil q) fun _ _ q=>q)))⟩
theorem wp_ownMeth{mm id:String}(slot:Slot "list" (Str.ofString mm) id)(hty:typeOf (.builtin id)=pure (.type "method_descriptor")){i:Nat}{e:E}{v:V}{o:Expr}{l:List Expr}{ap pos q:Pos}{xs ys zs:List V}(hn:nam o (isLoc Γ.c i)=true)(ho:one l (okE Γ.c e)=true)(hl:(ap.endLine==pos.line)=true)(I:FInv Γ ρ σ t)
  (e1:ρ.get i=some (.o xs)) (h:OkE X d e ρ σ (v,ρ₁,σ₁)) (e2:ρ₁.get i=some (.o ys)) (k:∀a u t₁,FInv Γ ρ₁ σ₁ t₁→PList t₁.g t₁.s.heap a ys→VRep t₁.g u v→∀Q:Shared→Prop,(∀h',PList t₁.g h' a zs→Heap.SameBut a t₁.s.heap h'→Q {t₁.s with heap:=h'})→Wp Γ (call (.builtin id) [.ref a,u]) (fun _=>Q) t₁.s):
  Wp Γ (exec (.Expr (.Call (.Attribute o (Str.ofString mm) ap) l [] pos) q) Γ.env) (PS Γ t (.next,ρ₁.put i (.o zs),σ₁)) t.s:=by
 obtain⟨n,p,rfl,hk⟩:=nam_ hn
 refine wp_listMeth slot hty rfl ho hl fun y hy=>?_
 obtain⟨_,a,w1,w2,w3,⟨⟨vs,hp,_⟩,_⟩⟩:=I.own e1
 obtain rfl:=sij ((loc_ hk).1.symm.trans w1)
 refine wp_slot I w1 w2 ⟨a,_,rfl,hp,h.go hy I fun u t₁ I₁ m₁ R₁ s₁=>?_⟩
 obtain⟨u1,u2⟩:=own_same hk w2 I₁ m₁ e2
 refine k a u t₁ I₁ u2 R₁ _ fun h' z1 z2=>?_
 obtain⟨J,st⟩:=I₁.upd (k:=t₁.s.toks) e2 u1 z1 z2
 exact PS.next J (s₁.trans st)
theorem s_app{i:Nat}{e:E}{v:V}{xs ys:List V}(e1:ρ.get i=some (.o xs))(h:OkE X d e ρ σ (v,ρ₁,σ₁))(e2:ρ₁.get i=some (.o ys))(hl:ys.length < LIM):OkS X d (.app i e) ρ σ (.next,ρ₁.put i (.o (ys++[v])),σ₁):=by
 intro Γ x t hx I
 obtain⟨y,p,rfl,o,ap,l,q,rfl,h1,h2⟩:=sMeth_ hx
 obtain⟨h3,h4⟩:=band h2
 exact wp_ownMeth slot_list_append type_list_append h3 h4 h1 I e1 h e2 fun a u t₁ I₁ hp R Q k=>op_append hp R hl k
theorem s_ext{i:Nat}{e:E}{xs ys zs:List V}(e1:ρ.get i=some (.o xs))(h:OkE X d e ρ σ (.tup zs,ρ₁,σ₁))(e2:ρ₁.get i=some (.o ys))(hl:ys.length+zs.length≤LIM):OkS X d (.ext i e) ρ σ (.next,ρ₁.put i (.o (ys++zs)),σ₁):=by
 intro Γ x t hx I
 obtain⟨y,p,rfl,o,ap,l,q,rfl,h1,h2⟩:=sMeth_ hx
 obtain⟨h3,h4⟩:=band h2
 exact wp_ownMeth PySem.F.slot_list_extend PySem.F.type_list_extend h3 h4 h1 I e1 h e2 fun a u t₁ I₁ hp R Q k=>op_extend I₁.h hp R hl k
theorem s_appr{a e:E}{v:V}{r:Nat}{xs ys:List V}(h1:OkE X d a ρ σ (.ref r,ρ₁,σ₁))(e1:σ₁[r]?=some (.list xs))(h:OkE X d e ρ₁ σ₁ (v,ρ₂,σ₂))(e2:σ₂[r]?=some (.list ys))(hl:ys.length < LIM):OkS X d (.appr a e) ρ σ (.next,ρ₂,σ₂.set r (.list (ys++[v]))):=by
 intro Γ x t hx I
 obtain⟨y,p,rfl,o,ap,l,q,rfl,g1,g2⟩:=sMeth_ hx
 obtain⟨g2,g5⟩:=band g2
 obtain⟨g3,g4⟩:=band g2
 refine wp_listMeth slot_list_append type_list_append g4 g5 g1 fun y hy=>h1.go g3 I fun ov t₁ I₁ m₁ R₁ s₁=>?_
 obtain⟨b,rfl,hb,⟨⟨vs,hp,_⟩,_⟩⟩:=R₁.obj I₁.h e1
 refine⟨b,_,rfl,hp,h.go hy I₁ fun u t₂ I₂ m₂ R₂ s₂=>?_⟩
 have hb:=s₂.le.io _ _ hb
 exact PS.post I₂ (s₁.trans s₂) (op_append (I₂.h.ob _ _ _ e2 hb) R₂ hl fun h' z1 z2=>PU.upd (t:=t₂.s.toks) (mo:=.list (ys++[v])) I₂.h hb z2 z1 z1.live) fun _ _ q=>q
theorem op_pop{X:Cx}{g:Gh}{s:Shared}{A:Around}{a:Addr}{xs:List V}{Q:Value→Shared→Prop}{pos:Pos}(hp:PList g s.heap a xs)(h:0 < xs.length)(k:∀u h',PList g h' a xs.dropLast→Heap.SameBut a s.heap h'→Q u {s with heap:=h'}):
  wpAny (model pw X.w) A (callWith pos (.builtin "list.pop") [.ref a] [] []) Q NoE s:=by
 obtain⟨⟨vs,⟨n,ho⟩,hr⟩,hl⟩:=hp
 have el:=hr.length
 have hlast:xs[xs.length - 1]?=some (xs[xs.length - 1]'(Nat.sub_lt h Nat.one_pos)):=Qj _
 obtain⟨v,hv,_⟩:=hr.get hlast
 refine PySem.P.pop_list (y:=v) ho ?_ (k v _ ⟨⟨vs.dropLast,?_,?_⟩,Qf (by rw[List.length_dropLast];exact Nat.sub_le _ _) hl⟩ (Heap.SameBut.update ..)) (by rw[Qo,el];exact hl)
 ·rw[Qo,el];exact ga hv
 ·have:=upd_list (fun x=>x.eraseIdxIfInBounds (vs.toArray.size - 1)) ho
  rw[List.eraseIdxIfInBounds_toArray,Qo,List.eraseIdx_length_sub_one]at this
  exact this
 ·rw[List.dropLast_eq_take,List.dropLast_eq_take,el];exact hr.take _
theorem s_popr{a:E}{r:Nat}{xs:List V}(h1:OkE X d a ρ σ (.ref r,ρ₁,σ₁))(e1:σ₁[r]?=some (.list xs))(hl:0 < xs.length):OkS X d (.popr a) ρ σ (.next,ρ₁,σ₁.set r (.list xs.dropLast)):=by
 intro Γ x t hx I
 obtain⟨y,p,rfl,o,ap,l,q,rfl,g1,g2⟩:=sMeth_ hx
 obtain⟨g2,g5⟩:=band g2
 obtain⟨g3,g4⟩:=band g2
 rw[emp g5]
 refine wpAny_Expr_any (Call_method0 (attributeBase_of g4) g1 (h1.go g3 I fun ov t₁ I₁ m₁ R₁ s₁=>?_)) (by unfold interactive;rw[Γ.ok.kind];rfl) (swaps_no rfl)
 obtain⟨b,rfl,hb,hp⟩:=R₁.obj I₁.h e1
 obtain⟨⟨vs,⟨n,ho⟩,_⟩,_⟩:=id hp
 exact⟨"list","list.pop",F.plainAttrs_list,F.slot_list_pop,F.type_list_pop,⟨_,ho,rfl⟩,fun b hb=>by cases hb;exact⟨_,ho,rfl⟩,PS.post I₁ s₁ (op_pop hp hl fun _ h' z1 z2=>PU.upd (t:=t₁.s.toks) (mo:=.list xs.dropLast) I₁.h hb z2 z1 z1.live) fun _ _ q=>q⟩
end
inductive ItC:Value→Prop
 |l:ItC (.type "list_iterator")
 |t:ItC (.type "tuple_iterator")
 |r:ItC (.type "range_iterator")
structure Itr(X:Cx)(A:Around)(I:Addr)(fp:List Addr)(N:Nat)(P:Nat→Value→Prop)(S:Nat→Heap→Prop)(gx:Gh)(xs:List V):Prop where
 W:Walks pw X.w A I fp [I] N P S
 cl:∀i h,S i h→∃o,h.get? I=some o∧ItC o.cls
 len:xs.length=N
 val:∀i v,i < N→P i v→∃x,xs[i]?=some x∧VRep gx v x
section
variable {X:Wd}{d:Nat}{Γ:Fc X d}{ρ ρ₁ ρ₂ ρ₃:Rho}{σ σ₁ σ₂ σ₃:Sg}{t t' t₀ t₁ t₂:St}{I:Addr}{x:V}{xs:List V}{b:Bool}
inductive Iter(b:Bool)(Γ:Fc X d)(I:Addr)(σ:Sg)(t:St):List V→Prop
 |mk {fp N P S gx zs}(i:Nat):Itr X.X Γ.A I fp N P S gx zs→S i t.s.heap→Apart Γ t I→(∀b∈fp,b=I∨∃o,t.g.φ b=some o)→gx.Le t.g→i≤N→Iter b Γ I σ t (zs.drop i)
 |ls {zs}(r i a:Nat):b=true→σ[r]?=some (.list zs)→t.g.ι[r]?=some a→t.s.heap.IsListIter I a i→Apart Γ t I→i≤zs.length→Iter b Γ I σ t (zs.drop i)
theorem Iter.apart(h:Iter b Γ I σ t xs):Apart Γ t I:=by cases h<;>assumption
theorem Iter.move(h:Iter b Γ I σ t xs)(J:FInv Γ ρ σ t)(J':FInv Γ ρ₁ σ₁ t')(le:t.g.Le t'.g)(ap:Apart Γ t' I)(kI:Keep t.s.heap t'.s.heap I)(hσ:b=true→σ₁=σ):Iter b Γ I σ₁ t' xs:=by
 induction h with
 |mk i w s a z l k=>
  refine .mk i w (w.W.frame _ _ _ s fun b hb o e=>?_) ap (fun b hb=>(z b hb).imp id fun⟨o,e⟩=>⟨o,le.phi _ _ e⟩) (l.trans le) k
  rcases z b hb with rfl|⟨o',e'⟩
  ·exact kI o e
  ·obtain rfl:=sij ((J.h.frz _ _ e').symm.trans e)
   exact J'.h.frz _ _ (le.phi _ _ e')
 |ls r i a hb h1 h2 h3 h4 h5=>
  obtain⟨o,h3,h6⟩:=h3
  exact .ls r i a hb (hσ hb▸h1) (le.io _ _ h2) ⟨o,kI o h3,h6⟩ ap h5
theorem Iter.step(h:Iter b Γ I σ t xs)(J:FInv Γ ρ σ t)(J':FInv Γ ρ₁ σ₁ t')(st:Step Γ t t')(hσ:b=true→σ₁=σ):Iter b Γ I σ₁ t' xs:=h.move J J' st.le (h.apart.step st) (h.apart.keep st) hσ
theorem Iter.quiet{h':Heap}{k:Tok}(a:Apart Γ t I)(hk:∀b o,¬b∈[I]→t.s.heap.get? b=some o→h'.get? b=some o)(J:FInv Γ ρ σ t)(hn:t₀.s.heap.get? I=none)(st:Step Γ t₀ t):(∀b,¬b=I→Keep t.s.heap h' b)∧FInv Γ ρ σ (t.on h' k)∧Step Γ t₀ (t.on h' k):=by
 have hk':∀b,¬b=I→Keep t.s.heap h' b:=fun b hb o e=>hk b o (fun q=>hb (Qk.mp q)) e
 exact⟨hk',J.quiet hk' fun b hb=>hb▸a,st.quiet hk' fun b hb=>hb▸hn⟩
theorem drop_cons{zs:List V}{i:Nat}{y:V}(hy:zs[i]?=some y)(e:x::xs=zs.drop i):x=y∧xs=zs.drop (i+1):=by
 obtain⟨q,rfl⟩:=Qc.mp hy
 exact List.cons.inj (e.trans (List.drop_eq_getElem_cons q))
theorem drop_lt{zs:List V}{i:Nat}(e:x::xs=zs.drop i):i < zs.length:=by
 rcases Nat.lt_or_ge i zs.length with q|q
 ·exact q
 ·rw[List.drop_of_length_le q]at e;exact nomatch e
theorem Iter.next(h:Iter b Γ I σ t (x::xs))(J:FInv Γ ρ σ t)(hn:t₀.s.heap.get? I=none)(st:Step Γ t₀ t){Q:Option Value→Shared→Prop}{E:Value→Shared→Prop}(k:∀v h' tk,(∀b,¬b=I→Keep t.s.heap h' b)→FInv Γ ρ σ (t.on h' tk)→Step Γ t₀ (t.on h' tk)→VRep t.g v x→Iter b Γ I σ (t.on h' tk) xs→Q (some v) (t.on h' tk).s):wpAny (model pw X.X.w) Γ.A (pyNext (.ref I)) Q E t.s:=by
 generalize e:x::xs=ys at h
 induction h with
 | @mk fp N P S gx zs i w s a z l hi=>
  have hl:=w.len▸drop_lt e
  refine w.W.item i t.s Q E hl s fun v h' tk hp s' hk=>?_
  obtain⟨y,hy,ry⟩:=w.val i v hl hp
  obtain⟨rfl,rfl⟩:=drop_cons hy e
  obtain⟨kp,J',st'⟩:=Iter.quiet (k:=tk) a hk J hn st
  obtain⟨o,ho,_⟩:=w.cl _ _ s'
  exact k v h' tk kp J' st' (ry.mono l) (.mk (i+1) w s' ⟨a.fr,a.ow,a.pr,o,ho⟩ z l hl)
 | @ls zs r i a hb h1 h2 h3 h4 h5=>
  obtain⟨⟨vs,hp,hr⟩,_⟩:PList t.g t.s.heap a zs:=J.h.ob _ _ _ h1 h2
  have hl:=drop_lt e
  have hy:zs[i]?=some zs[i]:=Qj hl
  obtain⟨v,hv,rv⟩:=hr.get hy
  obtain⟨rfl,rfl⟩:=drop_cons hy e
  refine wpAny_pyNext_list_item h3 hp.isList (ga hv) fun h' hi hs=>?_
  obtain⟨kp,J',st'⟩:=Iter.quiet (k:=t.s.toks) (h':=h') h4 (fun b o hb e=>(hs.2 b fun q=>hb (Qk.mpr q)).trans e) J hn st
  obtain⟨o,ho,_⟩:=id hi
  exact k v h' _ kp J' st' rv (.ls r (i+1) a hb h1 h2 hi ⟨h4.fr,h4.ow,h4.pr,o,ho⟩ hl)
theorem Iter.done(h:Iter b Γ I σ t [])(J:FInv Γ ρ σ t)(hn:t₀.s.heap.get? I=none)(st:Step Γ t₀ t){Q:Option Value→Shared→Prop}{E:Value→Shared→Prop}(k:∀h' tk,(∀b,¬b=I→Keep t.s.heap h' b)→FInv Γ ρ σ (t.on h' tk)→Step Γ t₀ (t.on h' tk)→Q none (t.on h' tk).s):wpAny (model pw X.X.w) Γ.A (pyNext (.ref I)) Q E t.s:=by
 generalize e:[]=ys at h
 induction h with
 | @mk fp N P S gx zs i w s a z l hi=>
  obtain rfl:i=N:=Nat.le_antisymm hi (w.len▸List.drop_eq_nil_iff.mp e.symm)
  refine w.W.done t.s Q E s fun h' tk hk=>?_
  obtain⟨kp,J',st'⟩:=Iter.quiet (k:=tk) a hk J hn st
  exact k h' tk kp J' st'
 | @ls zs r i a hb h1 h2 h3 h4 h5=>
  obtain⟨⟨vs,hp,hr⟩,_⟩:PList t.g t.s.heap a zs:=J.h.ob _ _ _ h1 h2
  refine wpAny_pyNext_list_end Γ.hd h3 hp.isList (List.getElem?_toArray.trans (QS (hr.length▸List.drop_eq_nil_iff.mp e.symm))) fun h' hs=>?_
  obtain⟨kp,J',st'⟩:=Iter.quiet (k:=t.s.toks) (h':=h') h4 (fun b o hb e=>hs b o (fun q=>hb (Qk.mpr q)) e) J hn st
  exact k h' _ kp J' st'
theorem Iter.self(h:Iter b Γ I σ t xs){Q E:Value→Shared→Prop}(q:Q (.ref I) t.s):wpAny (model pw X.X.w) Γ.A (pyIter (.ref I)) Q E t.s:=by
 induction h with
 |mk i w s=>exact w.W.self i _ _ _ s q
 |ls r i a _ _ _ h3=>exact wpAny_pyIter_listiter h3 q
theorem ItC.no{c:Value}{n:String}(h:ItC c)(e:c=.type n):(["enumerate","zip","dict_itemiterator","dict_reverseitemiterator","odict_iterator","itertools.zip_longest","itertools.pairwise"].contains n)=false:=by
 cases h<;>(cases e;decide)
inductive Tg:Expr→Prop
 |n (n p):Tg (.Name n p)
 |t (l k p):Tg (.Tuple l k p)
theorem go_it{X:Cx}{A:Around}{s:Shared}{I:Addr}{o:Obj}{tg:Expr}{v:Value}(ht:Tg tg)(ho:s.heap.get? I=some o)(hc:ItC o.cls){Q:Unit→Shared→Prop}{E:Value→Shared→Prop}(q:Q () s):wpAny (model pw X.w) A (letOwnedTupleGo tg (.ref I) v) Q E s:=by
 induction ht with
 |n=>exact QW q
 |t l k p=>
  induction v with
  |ref a=>
   unfold letOwnedTupleGo
   refine QV (wpAny_load ho ?_)
   split
   ·rename_i e3 e4
    rw[hc.no e3,Bool.false_and]
    exact QW q
   ·exact QW q
  |_=>exact QW q
theorem Iter.go{tg:Expr}{v:Value}(ht:Tg tg)(h:Iter b Γ I σ t xs){Q:Unit→Shared→Prop}{E:Value→Shared→Prop}(q:Q () t.s):wpAny (model pw X.X.w) Γ.A (letOwnedTupleGo tg (.ref I) v) Q E t.s:=by
 induction h with
 |mk i w s a z l k=>
  obtain⟨o,ho,hc⟩:=w.cl _ _ s
  exact go_it ht ho hc q
 |ls r i a hb h1 h2 h3=>
  obtain⟨o,ho,hc,_⟩:=h3
  exact go_it ht ho (hc▸.l) q
inductive Goes:Fl→Prop
 |next:Goes .next
 |cont:Goes .cont
inductive Ends:Fl→Fl→Prop
 |brk:Ends .brk .next
 |ret (v):Ends (.ret v) (.ret v)
inductive Rounds(X:Wd)(d:Nat)(B:V→Rho→Rho→Prop)(b:Ss):List V→Rho→Sg→Fl × Rho × Sg→Prop
 |nil {p q}:Rounds X d B b [] p q (.next,p,q)
 |go {y l p q p₁ p₂ q₂ f r}:B y p p₁→OkB X d b p₁ q (f,p₂,q₂)→Goes f→Rounds X d B b l p₂ q₂ r→Rounds X d B b (y::l) p q r
 |out {y l p q p₁ p₂ q₂ f g}:B y p p₁→OkB X d b p₁ q (f,p₂,q₂)→Ends f g→Rounds X d B b (y::l) p q (g,p₂,q₂)
inductive Aft(R:Rho→Sg→Prop)(r:Fl × Rho × Sg)(p:Rho)(q:Sg):Fl→Prop
 |go {f}:Goes f→R p q→Aft R r p q f
 |out {f g}:Ends f g→r=(g,p,q)→Aft R r p q f
inductive RC(X:Wd)(d:Nat)(B:V→Rho→Rho→Prop)(b:Ss)(y:V)(l:List V)(p:Rho)(q:Sg)(r:Fl × Rho × Sg):Prop
 |mk {p₁ p₂ q₂ f}:B y p p₁→OkB X d b p₁ q (f,p₂,q₂)→Aft (Rounds X d B b l · · r) r p₂ q₂ f→RC X d B b y l p q r
theorem Rounds.inv{B:V→Rho→Rho→Prop}{b:Ss}{r:Fl × Rho × Sg}(h:Rounds X d B b xs ρ σ r):@List.casesOn V (fun _=>Prop) xs (r=(.next,ρ,σ)) fun y l=>RC X d B b y l ρ σ r:=
 h.rec (motive:=fun xs ρ σ r _=>@List.casesOn V (fun _=>Prop) xs (r=(.next,ρ,σ)) fun y l=>RC X d B b y l ρ σ r) rfl (fun h1 h2 h3 h4 _=>.mk h1 h2 (.go h3 h4)) fun h1 h2 h3=>.mk h1 h2 (.out h3 rfl)
inductive AF(R:Prop)(P:Flow→Prop)(fl:Flow):Prop
 |n:fl=.next→R→AF R P fl
 |c:fl=.cont→R→AF R P fl
 |b:fl=.brk→P .next→AF R P fl
 |r (v):fl=.ret v→P fl→AF R P fl
theorem Aft.fl{R:Rho→Sg→Prop}{r:Fl × Rho × Sg}{f:Fl}{fl:Flow}{p:Rho}{q:Sg}(h:Aft R r p q f)(fr:FlRep t.g fl f)(J:FInv Γ p q t)(st:Step Γ t₀ t):AF (R p q) (PS Γ t₀ r · t.s) fl:=by
 induction h with
 |go h1 h2=>
  cases h1<;>cases fr
  ·exact .n rfl h2
  ·exact .c rfl h2
 |out h1 h2=>
  subst h2
  cases h1<;>cases fr
  ·exact .b rfl (.mk t J .next st)
  ·exact .r _ rfl (.mk t J (.ret ‹_›) st)
inductive FW(Γ:Fc X d)(I:Addr)(t₀:St)(B:V→Rho→Rho→Prop)(b:Ss)(r:Fl × Rho × Sg)(n:Nat):Shared→Prop
 |mk {p q} (l)(t:St):l.length=n→FInv Γ p q t→Step Γ t₀ t→Iter false Γ I q t l→Rounds X d B b l p q r→FW Γ I t₀ B b r n t.s
theorem wp_for{tg:Expr}{body:List Stmt}{B:V→Rho→Rho→Prop}{b:Ss}{r:Fl × Rho × Sg}(ht:Tg tg)(hB:okSs Γ.c b body=true)
  (hb:∀v x ρ ρ' σ t,FInv Γ ρ σ t→VRep t.g v x→B x ρ ρ'→∀Q:Unit→Shared→Prop,(∀t',FInv Γ ρ' σ t'→Step Γ t t'→Q () t'.s)→Wp Γ (assign tg Γ.env v) Q t.s)
  (J:FInv Γ ρ σ t) (st:Step Γ t₀ t) (hn:t₀.s.heap.get? I=none) (hi:Iter false Γ I σ t xs) (hr:Rounds X d B b xs ρ σ r) {R:Result→Shared→Prop} (k:∀f s,PS Γ t₀ r f s→R (.ok f) s):
  codeAny (model pw X.X.w) Γ.A (.forLoop tg (.ref I) body [] Γ.env) R t.s:=by
 refine codeAny_forLoop_any (FW Γ I t₀ B b r) (fun n s h=>?_) xs.length (.mk xs t rfl J st hi hr)
 clear hi hr J st
 obtain⟨l,t,e,J,st,hi,hr⟩:=h
 replace hr:=hr.inv
 induction l with
 |nil=>
  subst hr
  exact hi.done J hn st fun h' tk _ J' st'=>wpAny_execs_nil (k _ _ (PS.next J' st'))
 |cons y l=>
  obtain⟨h1,h2,h3⟩:=hr
  refine hi.next J hn st fun v h' tk _ J' st' rv hi'=>hi'.go ht (QY (hb v _ _ _ _ _ J' rv h1 _ fun t₂ J₂ st₂=>QY (h2 _ _ _ hB J₂) (fun f s q=>?_) fun _ _ q=>q.elim) (fun _ _ q=>q) fun _ _ q=>q.elim)
  obtain⟨t₃,J₃,fr,st₃⟩:=q
  have fin:Rounds X d B b l _ _ r→∃m,m < n∧FW Γ I t₀ B b r m t₃.s:=fun h4=>⟨_,e▸Nat.lt_succ_self _,FW.mk l t₃ rfl J₃ ((st'.trans st₂).trans st₃) ((hi'.step J' J₂ st₂ fun h=>nomatch h).step J₂ J₃ st₃ fun h=>nomatch h) h4⟩
  rcases h3.fl fr J₃ ((st'.trans st₂).trans st₃)with⟨rfl,h⟩|⟨rfl,h⟩|⟨rfl,h⟩|⟨v,rfl,h⟩
  ·exact fin h
  ·exact fin h
  ·exact k _ _ h
  ·exact k _ _ h
end
inductive TupL:V→List V→Prop
 |t (xs):TupL (.tup xs) xs
 |l (xs):TupL (.flist xs) xs
noncomputable def rng(a:Int)(n:Nat):List V:=@Nat.rec (fun _=>Int→List V) (fun _=>[]) (fun _ ih a=>.int a::ih (a+1)) n a
theorem rng_len:∀{n:Nat}{a:Int},(rng a n).length=n:=by
 intro n
 induction n with
 |zero=>exact rfl
 |succ n ih=>exact congrArg (·+ 1) ih
theorem rng_get:∀{n:Nat}{a:Int}{i:Nat},i < n→(rng a n)[i]?=some (.int (a+i)):=by
 intro n
 induction n with
 |zero=>exact fun h=>nomatch h
 |succ n ih=>
  intro a i h
  induction i with
  |zero=>exact congrArg (fun k=>some (V.int k)) (Int.add_zero a).symm
  |succ i=>exact(ih (Nat.lt_of_succ_lt_succ h)).trans (congrArg (fun k=>some (V.int k)) (by lia))
theorem small_of{k:Nat}(h1:k≤LIM):Builtin.Range.small 0 (.ofNat k) 1=true∧Builtin.Range.rangeSize 0 (.ofNat k) 1=(k:Int):=by
 have h1:k≤16777216:=h1
 have e:Builtin.Range.rangeSize 0 (.ofNat k) 1=(k:Int):=by
  unfold Builtin.Range.rangeSize
  simp only[show(1:Int) > 0 from by decide,if_true,Int.ediv_one]
  split<;>lia
 refine⟨?_,e⟩
 unfold Builtin.Range.small
 rw[e]
 unfold Builtin.Range.rangeFitsLong
 simp
 lia
section
variable {X:Wd}{d:Nat}{Γ:Fc X d}{ρ ρ₁ ρ₂ ρ₃:Rho}{σ σ₁ σ₂ σ₃:Sg}{t t' t₀ t₁ t₂:St}{I:Addr}{v:V}{xs:List V}{b:Bool}
theorem Iter.start{H:Heap}{k:Tok}{o:Obj}{fp:List Addr}{N:Nat}{P:Nat→Value→Prop}{S:Nat→Heap→Prop}(J:FInv Γ ρ σ t)(kH:∀a,Keep t.s.heap H a)(hf:o.isFreed=false)(w:Itr X.X Γ.A H.objs.size fp N P S t.g xs)(s:S 0 (H.push o))(z:∀b∈fp,b=H.objs.size∨∃o,t.g.φ b=some o)
  {Q:Value→Shared→Prop} (kk:∀I h' tk,(∀a,Keep t.s.heap h' a)→t.s.heap.get? I=none→FInv Γ ρ σ (t.on h' tk)→Iter b Γ I σ (t.on h' tk) xs→Q (.ref I) (t.on h' tk).s):Q (.ref H.objs.size) (t.on (H.push o) k).s:=by
 have hk:∀a,Keep t.s.heap (H.push o) a:=fun a p e=>QD _ (kH a p e)
 have hd:t.s.heap.get? H.objs.size=none:=none_of_live (fun a ⟨o,e⟩=>⟨o,kH a o e⟩) (get?_none_size H)
 obtain⟨h1,h2,h3⟩:=J.dead hd
 exact kk _ _ k hk hd (J.lift (J.h.grown hk) (.grown hk)) (.mk (zs:=xs) 0 w s ⟨h1,h2,h3,o,QF _ hf⟩ z (.refl _) (QC _))
theorem Itr.seq{X:Cx}{A:Around}{I a:Addr}{xs:List V}{vs:List Value}{g:Gh}{S:Nat→Heap→Prop}(W:Walks pw X.w A I [I,a] [I] (List.toArray vs).size (fun i v=>(List.toArray vs)[i]?=some v) S)(cl:∀i h,S i h→∃o,h.get? I=some o∧ItC o.cls)(R:VReps g vs xs):Itr X A I [I,a] (List.toArray vs).size (fun i v=>(List.toArray vs)[i]?=some v) S g xs:=by
 refine⟨W,cl,R.length.symm.trans (Qo (as:=vs)).symm,fun i v h e=>?_⟩
 rw[Qo,R.length]at h
 have hx:xs[i]?=some xs[i]:=Qj h
 obtain⟨w,e',r⟩:=R.get hx
 obtain rfl:=sij ((ga e').symm.trans e)
 exact⟨_,hx,r⟩
theorem wp_iter{u:Value}(h:TupL v xs)(J:FInv Γ ρ σ t)(R:VRep t.g u v){Q:Value→Shared→Prop}(k:∀I h' tk,(∀a,Keep t.s.heap h' a)→t.s.heap.get? I=none→FInv Γ ρ σ (t.on h' tk)→Iter b Γ I σ (t.on h' tk) xs→Q (.ref I) (t.on h' tk).s):Wp Γ (pyIter u) Q t.s:=by
 have R:=R.inv
 have z:∀{a o},t.g.φ a=some o→∀b∈[t.s.heap.objs.size,a],b=t.s.heap.objs.size∨∃o,t.g.φ b=some o:=fun e b hb=>(Qt.mp hb).imp id fun q=>⟨_,(Qk.mp q)▸e⟩
 have ne:∀{a o},t.g.φ a=some o→a≠t.s.heap.objs.size:=fun e=>Nat.ne_of_lt (Heap.lt_size (J.h.frz _ _ e))
 induction h with
 |t=>
  obtain⟨a,o,vs,n,rfl,h1,h2,h3,h4,_⟩:=R
  have ht:t.s.heap.IsTuple a (List.toArray vs):=⟨o,J.h.frz _ _ h1,h2,n,h3⟩
  exact wpAny_pyIter_tuple ht (Iter.start (k:=t.s.toks) J (fun _ _ e=>e) rfl (.seq (Walks.tuple Γ.hd _ a (ne h1) _) (fun i h s=>by obtain⟨⟨o,q1,q2,_⟩,_⟩:=s;exact⟨o,q1,q2▸.t⟩) h4) ⟨⟨_,QF _ rfl,rfl,rfl⟩,ht.push _⟩ (z h1) k)
 |l=>
  obtain⟨a,o,vs,n,rfl,h1,h2,h3,h4,_⟩:=R
  have ht:t.s.heap.IsList a (List.toArray vs):=⟨o,J.h.frz _ _ h1,h2,n,h3⟩
  exact wpAny_pyIter_list ht (Iter.start (k:=t.s.toks) J (fun _ _ e=>e) rfl (.seq (Walks.list Γ.hd _ a (ne h1) _) (fun i h s=>by obtain⟨⟨o,q1,q2,_⟩,_⟩:=s;exact⟨o,q1,q2▸.l⟩) h4) ⟨⟨_,QF _ rfl,rfl,rfl⟩,ht.push _⟩ (z h1) k)
theorem wp_range{u:Value}{n:Nat}(J:FInv Γ ρ σ t)(R:VRep t.g u (.int (.ofNat n)))(hn:n≤LIM){Q:Value→Shared→Prop}(k:∀I h' tk,(∀a,Keep t.s.heap h' a)→t.s.heap.get? I=none→FInv Γ ρ σ (t.on h' tk)→Iter b Γ I σ (t.on h' tk) (rng 0 n)→Q (.ref I) (t.on h' tk).s):Wp Γ (call (.type "range") [u]) (fun r s=>Wp Γ (pyIter r) Q s) t.s:=by
 obtain⟨tk,rfl⟩:=R.int_inv
 obtain⟨sm,sz⟩:=small_of hn
 refine call_range_1 (wpAny_pyIter_range (.new ..) sm ?_)
 rw[sz]
 have w:=Walks.range (prog:=pw) (w:=X.X.w) (A:=Γ.A) Γ.hd (t.s.heap.push {cls:=.type "range",data:=.fields #[.int 0 t.s.toks,.int (.ofNat n) tk,.int 1 (t.s.toks+1)]}).objs.size 0 1 n
 refine Iter.start (k:=t.s.toks+1+1) J (fun _ _ e=>QD _ e) rfl ⟨w,fun i h s=>⟨_,s,.r⟩,rng_len,fun i v h e=>?_⟩ ?_ (fun b hb=>.inl (Qk.mp hb)) k
 ·obtain⟨t,rfl⟩:=e
  rw[Int.mul_one]
  exact⟨_,rng_get h,.int ..⟩
 ·have:=QF (t.s.heap.push {cls:=.type "range",data:=.fields #[.int 0 t.s.toks,.int (.ofNat n) tk,.int 1 (t.s.toks+1)]}) (o:={cls:=.type "range_iterator",data:=.fields #[rawInt 0,rawInt (n:Int),rawInt 1]}) rfl
  show Heap.get? _ _=some _
  simpa using this
noncomputable def B1(i:Nat)(x:V)(ρ ρ':Rho):Prop:=ρ'=ρ.put i (.v x)
noncomputable def B2(i j:Nat)(x:V)(ρ ρ':Rho):Prop:=∃a b,x=.tup [a,b]∧ρ'=(ρ.put i (.v a)).put j (.v b)
theorem s_for1{i:Nat}{e:E}{b:Ss}{r:Fl × Rho × Sg}(h:OkE X d e ρ σ (v,ρ₁,σ₁))(hv:TupL v xs)(hr:Rounds X d (B1 i) b xs ρ₁ σ₁ r):OkS X d (.for1 i e b) ρ σ r:=by
 intro Γ x t hx J
 obtain⟨ex,hx⟩:=isS_ hx rfl
 obtain⟨hx,q5⟩:=band hx
 obtain⟨hx,q4⟩:=band hx
 obtain⟨hx,q3⟩:=band hx
 obtain⟨q1,q2⟩:=band hx
 obtain⟨n,p,en,hl⟩:=nam_ q1
 rw[ex,en,emp q5]
 exact wpAny_For (h.go q3 J fun u t₁ J₁ m₁ R₁ s₁=>wp_iter hv J₁ R₁ fun I h' tk hk hd J₂ hi=>wp_for (t:=t₁.on h' tk) (.n n p) q4 (fun v x ρ ρ' σ t J R hb Q k=>by subst hb;exact assign_Name (wp_store hl J R (.refl ..) k)) J₂ (s₁.trans (FStep.grown hk).up) (none_of_live s₁.live hd) hi hr fun f s q=>q) (fold_no q2)
theorem s_for2{i j:Nat}{e:E}{b:Ss}{r:Fl × Rho × Sg}(h:OkE X d e ρ σ (v,ρ₁,σ₁))(hv:TupL v xs)(hr:Rounds X d (B2 i j) b xs ρ₁ σ₁ r):OkS X d (.for2 i j e b) ρ σ r:=by
 intro Γ x t hx J
 obtain⟨ex,hx⟩:=isS_ hx rfl
 obtain⟨hx,q5⟩:=band hx
 obtain⟨hx,q4⟩:=band hx
 obtain⟨hx,q3⟩:=band hx
 obtain⟨q1,q2⟩:=band hx
 obtain⟨en,q6⟩:=isE_ q1 rfl
 rw[ex,en,emp q5]
 exact wpAny_For (h.go q3 J fun u t₁ J₁ m₁ R₁ s₁=>wp_iter hv J₁ R₁ fun I h' tk hk hd J₂ hi=>wp_for (t:=t₁.on h' tk) (.t _ _ _) q4 (fun v x ρ ρ' σ t J R hb Q k=>by obtain⟨y,z,rfl,rfl⟩:=hb;exact wp_tup q6 rfl J R k) J₂ (s₁.trans (FStep.grown hk).up) (none_of_live s₁.live hd) hi hr fun f s q=>q) (fold_no q2)
theorem s_forR{i n:Nat}{e:E}{b:Ss}{r:Fl × Rho × Sg}(h:OkE X d e ρ σ (.int (.ofNat n),ρ₁,σ₁))(hn:n≤LIM)(hr:Rounds X d (B1 i) b (rng 0 n) ρ₁ σ₁ r):OkS X d (.forR i e b) ρ σ r:=by
 intro Γ x t hx J
 obtain⟨ex,hx⟩:=isS_ hx rfl
 obtain⟨hx,q5⟩:=band hx
 obtain⟨hx,q4⟩:=band hx
 obtain⟨q1,q2⟩:=band hx
 obtain⟨n,p,en,hl⟩:=nam_ q1
 obtain⟨n',p',l,q,ec,q6⟩:=callN_ q2
 obtain⟨q7,q8⟩:=band q6
 obtain⟨z,ez,q9,q0⟩:=one_ (l:=l) q8
 rw[ex,en,emp q5,ec,ez]
 refine wpAny_For (wpAny_Call_Name_kw (wp_glob J q7 fun u hu=>?_)) (fold_no rfl)
 cases hu
 rw[starEach_cons q0]
 exact PySem.callWith_type1 (h.go q9 J fun u t₁ J₁ m₁ R₁ s₁=>wp_range J₁ R₁ hn fun I h' tk hk hd J₂ hi=>wp_for (t:=t₁.on h' tk) (.n n p) q4 (fun v x ρ ρ' σ t J R hb Q k=>by subst hb;exact assign_Name (wp_store hl J R (.refl ..) k)) J₂ (s₁.trans (FStep.grown hk).up) (none_of_live s₁.live hd) hi hr fun f s q=>q)
inductive Whl(X:Wd)(d:Nat)(c:E)(b:Ss):Nat→Rho→Sg→Fl × Rho × Sg→Prop
 |stop {n p q p₁ q₁}:OkT X d c p q (false,p₁,q₁)→Whl X d c b n p q (.next,p₁,q₁)
 |go {n p q p₁ q₁ p₂ q₂ f r}:OkT X d c p q (true,p₁,q₁)→OkB X d b p₁ q₁ (f,p₂,q₂)→Goes f→Whl X d c b n p₂ q₂ r→Whl X d c b (n+1) p q r
 |out {n p q p₁ q₁ p₂ q₂ f g}:OkT X d c p q (true,p₁,q₁)→OkB X d b p₁ q₁ (f,p₂,q₂)→Ends f g→Whl X d c b n p q (g,p₂,q₂)
inductive WC(X:Wd)(d:Nat)(c:E)(b:Ss)(n:Nat)(p:Rho)(q:Sg)(r:Fl × Rho × Sg):Prop
 |stop {p₁ q₁}:OkT X d c p q (false,p₁,q₁)→r=(.next,p₁,q₁)→WC X d c b n p q r
 |go {p₁ q₁ p₂ q₂ f}:OkT X d c p q (true,p₁,q₁)→OkB X d b p₁ q₁ (f,p₂,q₂)→Aft (fun p q=>∃m,m < n∧Whl X d c b m p q r) r p₂ q₂ f→WC X d c b n p q r
theorem Whl.inv{n:Nat}{c:E}{b:Ss}{r:Fl × Rho × Sg}(h:Whl X d c b n ρ σ r):WC X d c b n ρ σ r:=by
 induction h with
 |stop h=>exact .stop h rfl
 |go h h1 h2 h3=>exact .go h h1 (.go h2 ⟨_,Nat.lt_succ_self _,h3⟩)
 |out h h1 h2=>exact .go h h1 (.out h2 rfl)
inductive WW(Γ:Fc X d)(t₀:St)(c:E)(b:Ss)(r:Fl × Rho × Sg)(n:Nat):Shared→Prop
 |mk {p q}(t:St):FInv Γ p q t→Step Γ t₀ t→Whl X d c b n p q r→WW Γ t₀ c b r n t.s
theorem wp_whl{n:Nat}{c:E}{b:Ss}{r:Fl × Rho × Sg}{x:Expr}{l:List Stmt}(h:Whl X d c b n ρ σ r)(q1:okE Γ.c c x=true)(q2:okSs Γ.c b l=true)(J:FInv Γ ρ σ t₀){R:Result→Shared→Prop}(k:∀f s,PS Γ t₀ r f s→R (.ok f) s):codeAny (model pw X.X.w) Γ.A (.whileLoop x l [] Γ.env) R t₀.s:=by
 refine codeAny_whileLoop (WW Γ t₀ c b r) (fun n s hw=>?_) n (.mk t₀ J (.refl ..) h)
 clear h J
 obtain⟨t,J,st,h⟩:=hw
 rcases h.inv with⟨h1,e⟩|⟨h1,h2,h3⟩
 ·refine QY (h1.go q1 J (Q:=fun w s=>w=false∧R (.ok .next) s) fun t' J' m' s'=>⟨rfl,k _ _ (e▸PS.next J' (st.trans s'))⟩) (fun w s q=>?_) fun _ _ q=>q.elim
  obtain⟨rfl,q⟩:=q
  rw[if_neg QQ]
  exact wpAny_execs_nil q
 ·refine QY (h1.go q1 J (Q:=fun w s=>w=true∧Wp Γ (execs l Γ.env) (fun f s=>AF (∃m,m < n∧WW Γ t₀ c b r m s) (PS Γ t₀ r · s) f) s) fun t' J' m' s'=>⟨rfl,h2.go q2 J' fun f t₂ J₂ fr s₂=>?_⟩) (fun w s q=>?_) fun _ _ q=>q.elim
  ·rcases h3.fl fr J₂ ((st.trans s').trans s₂)with⟨e,m,hm,h⟩|⟨e,m,hm,h⟩|⟨e,h⟩|⟨v,e,h⟩
   ·exact .n e ⟨m,hm,.mk t₂ J₂ ((st.trans s').trans s₂) h⟩
   ·exact .c e ⟨m,hm,.mk t₂ J₂ ((st.trans s').trans s₂) h⟩
   ·exact .b e h
   ·exact .r v e h
  ·obtain⟨rfl,q⟩:=q
   rw[if_pos rfl]
   refine QY q (fun f s q=>?_) fun _ _ q=>q.elim
   rcases q with⟨rfl,h⟩|⟨rfl,h⟩|⟨rfl,h⟩|⟨v,rfl,h⟩
   ·exact h
   ·exact h
   ·exact k _ _ h
   ·exact k _ _ h
theorem s_whl{n:Nat}{c:E}{b:Ss}{r:Fl × Rho × Sg}(h:Whl X d c b n ρ σ r):OkS X d (.whl c b) ρ σ r:=by
 intro Γ x t₀ hx J
 obtain⟨ex,hx⟩:=isS_ hx rfl
 obtain⟨hx,q3⟩:=band hx
 obtain⟨q1,q2⟩:=band hx
 rw[ex,emp q3]
 exact wpAny_While (wp_whl h q1 q2 J fun f s q=>q)
end
noncomputable def Tst(X:Wd)(d:Nat)(c:Option E)(p:Rho)(q:Sg)(r:Bool × Sg):Prop:=@Option.casesOn E (fun _=>Prop) c (r=(true,q)) fun e=>OkT X d e p q (r.1,p,r.2)
inductive Elts(X:Wd)(d:Nat)(b:Bool)(x:Nat)(c:Option E)(e:E)(p:Rho):List V→Sg→List V→Sg→Prop
 |nil {q}:Elts X d b x c e p [] q [] q
 |keep {y l q q₁ z q₂ zs q₃}:Tst X d c (p.put x (.v y)) q (true,q₁)→OkE X d e (p.put x (.v y)) q₁ (z,p.put x (.v y),q₂)→(b=true→q₂=q)→Elts X d b x c e p l q₂ zs q₃→Elts X d b x c e p (y::l) q (z::zs) q₃
 |skip {y l q q₁ zs q₃}:Tst X d c (p.put x (.v y)) q (false,q₁)→(b=true→q₁=q)→Elts X d b x c e p l q₁ zs q₃→Elts X d b x c e p (y::l) q zs q₃
section
variable {X:Wd}{d:Nat}{Γ:Fc X d}{ρ ρ₁ ρ₂ ρ₃:Rho}{σ σ₁ σ₂ σ₃:Sg}{t t' t₀ t₁ t₂:St}{I D:Addr}{v:V}{xs zs:List V}{b:Bool}
inductive EI(X:Wd)(d:Nat)(b:Bool)(x:Nat)(c:Option E)(e:E)(p:Rho)(y:V)(l:List V)(q:Sg)(zs:List V)(q':Sg):Prop
 |mk (w q₁):Tst X d c (p.put x (.v y)) q (w,q₁)→@Bool.casesOn (fun _=>Prop) w ((b=true→q₁=q)∧Elts X d b x c e p l q₁ zs q') (∃z q₂ ws,zs=z::ws∧OkE X d e (p.put x (.v y)) q₁ (z,p.put x (.v y),q₂)∧(b=true→q₂=q)∧Elts X d b x c e p l q₂ ws q')→EI X d b x c e p y l q zs q'
theorem Elts.inv{x:Nat}{c:Option E}{e:E}{p:Rho}{l:List V}{q q':Sg}(h:Elts X d b x c e p l q zs q'):@List.casesOn V (fun _=>Prop) l (zs=[]∧q'=q) fun y l=>EI X d b x c e p y l q zs q':=
 h.rec (motive:=fun l q zs q' _=>@List.casesOn V (fun _=>Prop) l (zs=[]∧q'=q) fun y l=>EI X d b x c e p y l q zs q') ⟨rfl,rfl⟩ (fun h1 h2 h3 h4 _=>.mk true _ h1 ⟨_,_,_,rfl,h2,h3,h4⟩) fun h1 h2 h3 _=>.mk false _ h1 ⟨h2,h3⟩
theorem FInv.congr(J:FInv Γ ρ σ t)(h:∀i,ρ₁.get i=ρ.get i):FInv Γ ρ₁ σ t:=⟨J.h,J.ns,fun i l e=>J.sl i l ((h i).symm.trans e),fun i a e=>(J.ow i a e).imp (fun⟨xs,q⟩=>⟨xs,(h i).trans q⟩) id,J.owi,J.pr⟩
inductive CW(Γ:Fc X d)(I D:Addr)(t₀:St)(b:Bool)(x:Nat)(c:Option E)(e:E)(ρ₀:Rho)(σo:Sg)(out:List V)(n:Nat):Shared→Prop
 |mk {p q done} (l zs)(t:St):l.length=n→FInv Γ p q t→(∀j,j≠x→p.get j=ρ₀.get j)→Step Γ t₀ t→Iter b Γ I q t l→Apart Γ t D→PList t.g t.s.heap D done→done.length+l.length≤LIM→Elts X d b x c e ρ₀ l q zs σo→out=done++zs→CW Γ I D t₀ b x c e ρ₀ σo out n t.s
noncomputable def okIfs(k:Mt)(c:Option E)(l:List Expr):Prop:=@Option.casesOn E (fun _=>Prop) c (l=[]) fun e=>∃z,l=[z]∧okE k e z=true
theorem Tst.go{c:Option E}{ifs:List Expr}{r:Bool × Sg}(h:Tst X d c ρ σ r)(hx:okIfs Γ.c c ifs)(J:FInv Γ ρ σ t){Q:Bool→Shared→Prop}(k:∀t',FInv Γ ρ r.2 t'→Step Γ t t'→Q r.1 t'.s):Wp Γ (forIn ifs true fun c r=>if r=true then do let ok ← isTrue c Γ.env (eval c Γ.env);pure (ForInStep.yield ok)else pure (ForInStep.yield r)) Q t.s:=by
 induction c with
 |none=>
  obtain rfl:ifs=[]:=hx
  obtain rfl:r=(true,σ):=h
  exact wpAny_tests_nil (k t J (.refl ..))
 |some e=>
  obtain⟨z,rfl,hz⟩:=hx
  have h:OkT X d e ρ σ (r.1,ρ,r.2):=h
  exact wpAny_tests_one (h.go hz J fun t' J' _ st=>k t' J' st)
theorem comp_loop{elt iter:Expr}{n:Str}{px pos:Pos}{sc:Scope}{ifs:List Expr}{x:Nat}{c:Option E}{e:E}{ρ₀:Rho}{σo:Sg}{out:List V}{R:Result→Shared→Prop}(hE:okE Γ.c e elt=true)(hI:okIfs Γ.c c ifs)(hx:isLoc Γ.c x n=true)(hDI:D≠I)(hnI:t₀.s.heap.get? I=none)(hnD:t₀.s.heap.get? D=none)
  (J:FInv Γ ρ₀ σ t) (st:Step Γ t₀ t) (hi:Iter b Γ I σ t xs) (hD:Apart Γ t D) (hp:PList t.g t.s.heap D []) (hl:xs.length≤LIM) (h:Elts X d b x c e ρ₀ xs σ out σo)
  (k:∀p t',FInv Γ p σo t'→Step Γ t₀ t'→Apart Γ t' D→PList t'.g t'.s.heap D out→R (.ok .next) t'.s):codeAny (model pw X.X.w) Γ.A (.compLoop (.ListComp elt [⟨.Name n px,iter,ifs,0⟩] sc pos) 0 (.ref I) (.ref D) Γ.env) R t.s:=by
 refine codeAny_compLoop_tests (CW Γ I D t₀ b x c e ρ₀ σo out) (fun n s hw=>?_) xs.length (.mk (done:=[]) xs out t rfl J (fun _ _=>rfl) st hi hD hp (by rw[List.length_nil,Nat.zero_add];exact hl) h rfl)
 clear J st hi hD hp hl h
 obtain⟨l,zs,t,el,J,hρ,st,hi,hD,hp,hl,h,ho⟩:=hw
 replace h:=h.inv
 cases l with
 |nil=>
  obtain⟨rfl,rfl⟩:=h
  refine hi.done J hnI st fun h' tk kp J' st'=>?_
  have hp':=hp.mono (.refl _) (kp D hDI)
  rw[QA]at ho
  exact k _ (t.on h' tk) J' st' ⟨hD.fr,hD.ow,hD.pr,hp'.live⟩ (ho▸hp')
 |cons y l=>
  refine hi.next J hnI st fun v h' tk kp J' st' rv hi'=>?_
  have hp':=hp.mono (.refl _) (kp D hDI)
  have hD':Apart Γ (t.on h' tk) D:=⟨hD.fr,hD.ow,hD.pr,hp'.live⟩
  obtain⟨w,q₁,h1,h2⟩:=h
  refine QY (assign_Name (wp_store (t₀:=t.on h' tk) hx J' rv (.refl ..) fun t₂ J₂ st₂=>?_)) (fun _ _ q=>q) fun _ _ q=>q.elim
  have J₂:FInv Γ (ρ₀.put x (.v y)) _ t₂:=J₂.congr fun j=>by
   by_cases e:j=x
   ·subst e;exact(Rho.get_self ..).trans (Rho.get_self ..).symm
   ·exact(Rho.get_ne _ _ _ e).trans ((hρ j e).symm.trans (Rho.get_ne _ _ _ e).symm)
  refine QY (h1.go hI J₂ fun t₃ J₃ st₃=>?_) (fun _ _ q=>q) fun _ _ q=>q.elim
  have s23:=st₂.trans st₃
  have D3:=hD'.step s23
  have p3:=hp'.mono s23.le (hD'.keep s23)
  induction w with
  |false=>
   obtain⟨h3,h4⟩:=h2
   rw[if_neg QQ]
   exact⟨_,el▸Nat.lt_succ_self _,.mk l zs t₃ rfl J₃ (fun j hj=>Rho.get_ne _ _ _ hj) (st'.trans s23) (hi'.step J' J₃ s23 h3) D3 p3 (Nat.le_of_succ_le hl) h4 ho⟩
  |true=>
   obtain⟨z,q₂,ws,rfl,h3,h4,h5⟩:=h2
   rw[if_pos rfl]
   refine QY (h3.go hE J₃ fun u t₄ J₄ _ R₄ s₄=>?_) (fun _ _ q=>q) fun _ _ q=>q.elim
   have i4:=hi'.step J' J₄ (s23.trans s₄) h4
   have D4:=D3.step s₄
   refine QY (op_append (p3.mono s₄.le (D3.keep s₄)) R₄ (QE (Nat.lt_add_of_pos_right (Nat.succ_pos _)) hl) fun h' z1 z2=>?_) (fun _ _ q=>q) fun _ _ q=>q.elim
   have hk:∀b,¬b=D→Keep t₄.s.heap h' b:=fun b hb o e=>(z2.2 b hb).trans e
   have J5:=J₄.quiet (k:=t₄.s.toks) hk fun b hb=>hb▸D4
   have aI:=i4.apart
   obtain⟨o,eo⟩:=aI.lv
   exact⟨_,el▸Nat.lt_succ_self _,.mk l ws (t₄.on h' t₄.s.toks) rfl J5 (fun j hj=>Rho.get_ne _ _ _ hj) (Step.quiet ((st'.trans s23).trans s₄) hk fun b hb=>hb▸hnD) (i4.move J₄ J5 (.refl _) ⟨aI.fr,aI.ow,aI.pr,o,hk I (Ne.symm hDI) o eo⟩ (hk I (Ne.symm hDI)) fun _=>rfl) ⟨D4.fr,D4.ow,D4.pr,z1.live⟩ z1 (by rw[Qb,Nat.add_assoc,Nat.add_comm [z].length];exact hl) h5 (by rw[ho,QN];rfl)⟩
end
theorem look_hd{α:Type}{n m:Str}{a:α}{l:List (Str × α)}{b:Bool}(h:(n==m)=b):((m,a)::l).lookup n=@Bool.casesOn (fun _=>Option α) b (l.lookup n) (some a):=by
 rw[List.lookup_cons,h];induction b<;>rfl
theorem closure_ok{env:Env}:∀{l:List (Str × NameKind)}{cs:List (Str × Addr)},(∀n,(n,NameKind.free)∈l→∃a,env.cells.lookup n=some a)→
  ∃cl,(forIn l cs fun(x:Str × NameKind) (cs:List (Str × Addr))=>(if(x.2==.free)=true then do let a ← cellOf env x.1;pure (ForInStep.yield ((x.1,a)::cs))else pure (ForInStep.yield cs):Sem (ForInStep (List (Str × Addr)))))=pure cl∧
   (∀n,(n,NameKind.free)∈l→cl.lookup n=env.cells.lookup n)∧∀n,¬(n,NameKind.free)∈l→cl.lookup n=cs.lookup n:=by
 intro l
 induction l with
 |nil=>intro cs _;exact⟨cs,rfl,fun _ h=>(nomatch h),fun _ _=>rfl⟩
 |cons p l ih=>
  obtain⟨m,k⟩:=p
  intro cs h
  have hl:=fun n hn=>h n (Qg _ hn)
  rw[List.forIn_cons]
  by_cases hk:k=.free
  ·subst hk
   obtain⟨a,ha⟩:=h m Qe
   obtain⟨cl,e1,e2,e3⟩:=ih (cs:=(m,a)::cs) hl
   refine⟨cl,?_,fun n hn=>?_,fun n hn=>?_⟩
   ·have:cellOf env m=pure a:=by unfold cellOf;rw[ha]
    simp only[beq_self_eq_true,if_true,this]
    exact e1
   ·by_cases hm:(n,NameKind.free)∈l
    ·exact e2 n hm
    ·rcases Qt.mp hn with q|q
     ·cases q
      exact(e3 _ hm).trans ((look_hd (Zb _)).trans ha.symm)
     ·exact absurd q hm
   ·exact(e3 n fun q=>hn (Qg _ q)).trans (look_hd (Zd.mpr (by rintro rfl;exact hn Qe)))
  ·obtain⟨cl,e1,e2,e3⟩:=ih (cs:=cs) hl
   have hb:¬(k==NameKind.free)=true:=by simpa using hk
   refine⟨cl,?_,fun n hn=>?_,fun n hn=>e3 n fun q=>hn (Qg _ q)⟩
   ·rw[if_neg hb]
    exact e1
   ·rcases Qt.mp hn with q|q
    ·cases q;exact absurd rfl hk
    ·exact e2 n q
structure Clo(env:Env)(sc:Scope)(cl:List (Str × Addr)):Prop where
 eq:closureFor sc env=pure cl
 sub:∀n a,cl.lookup n=some a→env.cells.lookup n=some a
 all:∀n,(n,NameKind.free)∈sc.names→cl.lookup n=env.cells.lookup n
theorem closure_for{env:Env}{sc:Scope}(h:∀n,(n,NameKind.free)∈sc.names→∃a,env.cells.lookup n=some a):∃cl,Clo env sc cl:=by
 obtain⟨cl,e1,e2,e3⟩:=closure_ok (cs:=[]) h
 refine⟨cl,?_,fun n a h'=>?_,e2⟩
 ·unfold closureFor
  exact(congrArg (fun t:Sem (List (Str × Addr))=>t >>= fun s=>pure s) e1).trans rfl
 ·by_cases hm:(n,NameKind.free)∈sc.names
  ·exact(e2 n hm).symm.trans h'
  ·exact nomatch (e3 n hm).symm.trans h'
structure ScOK(c:Mt)(sc:Scope)(cap:List Nat)(n:Str):Prop where
 kind:sc.kind=.function
 cell:∀y∈sc.names,y.2≠.cell
 loc:∀y∈sc.names,y.2=.local→sc.names.lookup y.1=some .local
 x:sc.names.lookup n=some .local
 free:∀m,(m,NameKind.free)∈sc.names→(c.K m=some .cell∨c.K m=some .free)∧∃i∈cap,c.vs[i]?=some m
 caps:∀i∈cap,∃m,c.vs[i]?=some m∧sc.names.lookup m=some .free
theorem scOK{c:Mt}{sc:Scope}{cap:List Nat}{n:Str}(h:okScope c sc cap n=true):ScOK c sc cap n:=by
 obtain⟨h,h6⟩:=band h
 obtain⟨h,h5⟩:=band h
 obtain⟨h,h4⟩:=band h
 obtain⟨h,h3⟩:=band h
 obtain⟨h1,h2⟩:=band h
 refine⟨QX h1,fun y hy e=>?_,fun y hy e=>?_,QX h4,fun m hm=>?_,fun i hi=>?_⟩
 ·have:=QM.mp h2 y hy;rw[e]at this;exact nomatch this
 ·have:=QM.mp h3 y hy;rw[e]at this;exact Za this
 ·obtain⟨q1,q2⟩:=band (show((c.K m==some .cell||c.K m==some .free)&&cap.any (fun i=>c.vs[i]?==some m))=true from QM.mp h5 _ hm)
  obtain⟨i,q3,q4⟩:=List.any_eq_true.mp q2
  exact⟨(Bool.or_eq_true_iff.mp q1).imp Za Za,i,q3,Za q4⟩
 ·obtain⟨m,e,q⟩:=an_ (QM.mp h6 i hi)
  exact⟨m,e,Za q⟩
theorem mem_of_lookupK{n:Str}{k:NameKind}:∀{l:List (Str × NameKind)},l.lookup n=some k→(n,k)∈l:=by
 intro l
 induction l with
 |nil=>exact fun h=>non h
 |cons p l ih=>
  obtain⟨m,j⟩:=p
  intro h
  cases hb:n==m with
  |true=>
   obtain rfl:=Za hb
   obtain rfl:=sij ((look_hd hb).symm.trans h)
   exact Qe
  |false=>exact Qg _ (ih ((look_hd hb).symm.trans h))
noncomputable def relab(c:Mt)(l:List (Str × NameKind)):List (Str × NameKind):=l.map fun y=>if(y.2==.free&&c.K y.1==some .cell)then(y.1,NameKind.cell)else y
theorem relab_cons(c:Mt)(p:Str × NameKind)(l:List (Str × NameKind)):∃k,relab c (p::l)=(p.1,k)::relab c l∧(p.2≠.free→k=p.2)∧(p.2=.free→k=.cell∨k=.free):=by
 by_cases h:(p.2==.free&&c.K p.1==some .cell)=true
 ·exact⟨.cell,congrArg (·::_) (if_pos h),fun q=>absurd (Za (band h).1) q,fun _=>.inl rfl⟩
 ·exact⟨p.2,congrArg (·::_) (if_neg h),fun _=>rfl,fun q=>.inr q⟩
theorem relab_look{c:Mt}{n:Str}{k:NameKind}:∀{l:List (Str × NameKind)},l.lookup n=some k→(k≠.free→(relab c l).lookup n=some k)∧(k=.free→(relab c l).lookup n=some .cell∨(relab c l).lookup n=some .free):=by
 intro l
 induction l with
 |nil=>exact fun h=>non h
 |cons p l ih=>
  intro h
  obtain⟨j,e,h1,h2⟩:=relab_cons c p l
  rw[e]
  cases hb:n==p.1 with
  |true=>
   obtain rfl:p.2=k:=sij ((look_hd (a:=p.2) hb).symm.trans h)
   rw[look_hd hb]
   exact⟨fun q=>congrArg some (h1 q),fun q=>(h2 q).imp (congrArg some) (congrArg some)⟩
  |false=>
   rw[look_hd hb]
   exact ih ((look_hd (a:=p.2) hb).symm.trans h)
inductive CapR(ρ:Rho):List Nat→Rho→Prop
 |nil:CapR ρ [] []
 |cons {i r y p}:ρ.get i=some (.v y)→CapR ρ r p→CapR ρ (i::r) ((i,.v y)::p)
theorem CapR.get{ρ p:Rho}{r:List Nat}{i:Nat}{l:Lv}(h:CapR ρ r p)(e:p.get i=some l):i∈r∧∃y,l=.v y∧ρ.get i=some (.v y):=by
 induction h with
 |nil=>exact non e
 | @cons j r y p h1 _ ih=>
  cases hb:Nat.beq i j with
  |true=>
   obtain rfl:=Qy hb
   obtain rfl:=sij ((Rho.get_cons (i,.v y) p hb).symm.trans e)
   exact⟨Qe,y,rfl,h1⟩
  |false=>exact(ih ((Rho.get_cons (j,.v y) p hb).symm.trans e)).imp (Qg _) id
theorem CapR.mem{ρ p:Rho}{r:List Nat}{i:Nat}(h:CapR ρ r p)(e:i∈r):∃y,ρ.get i=some (.v y):=by
 induction h with
 |nil=>exact nomatch e
 |cons h1 _ ih=>
  rcases Qt.mp e with rfl|e
  ·exact⟨_,h1⟩
  ·exact ih e
theorem inner_K{c:Mt}{env:Env}(K:c.K=env.kindOf)(hk:env.scope.kind=.function)(vs:List Str)(sc:Scope)(cl:List (Str × Addr))(C:Addr):(innerMt c vs sc).K=(compEnvC sc cl C env).kindOf:=by
 funext n
 show(sc.names.map _).lookup n=(sc.names.map _).lookup n
 congr 1
 refine QL fun y _=>?_
 obtain⟨a,b⟩:=y
 show(if(b==.free&&c.K a==some .cell)=true then _ else _)=_
 rw[K,hk,show(ScopeKind.function==ScopeKind.function)=true from rfl]
 simp only[Bool.and_true]
structure InOK{X:Wd}{d:Nat}(Γ:Fc X d)(sc:Scope)(vs:List Str)(cl:List (Str × Addr))(C:Addr):Prop where
 kind:sc.kind=.function
 nd:vs.Nodup
 dbg:∀n,n∈vs→(n==("__debug__":Str))=false∧(n==("__classdict__":Str))=false
 clo:Clo Γ.env sc cl
 cC:∀n a,Γ.env.cells.lookup n=some a→a≠C
section
variable {X:Wd}{d:Nat}{Γ:Fc X d}{ρ ρ₁ ρ₂ ρ₃ ρc:Rho}{σ σ₁ σ₂ σ₃:Sg}{t t' t₀ t₁ t₂:St}{I C:Addr}{v:V}{xs zs:List V}{b:Bool}{sc:Scope}{vs:List Str}{cl:List (Str × Addr)}{cap:List Nat}{n:Str}
noncomputable def Fc.inner(Γ:Fc X d)(O:InOK Γ sc vs cl C):Fc X d where
 c:=innerMt Γ.c vs sc
 env:=compEnvC sc cl C Γ.env
 A:=Γ.A
 G:=Γ.G
 K:=inner_K Γ.K Γ.ok.kind ..
 hd:=Γ.hd
 dep:=Γ.dep
 uni:=Γ.uni
 ok:=⟨O.kind,Γ.ok.glob,Γ.ok.blt,O.nd,fun n a h=>O.cC n a (O.clo.sub n a h),fun n n' a h h'=>Γ.ok.capt n n' a (O.clo.sub n a h) (O.clo.sub n' a h'),O.dbg⟩
theorem FInv.inner(J:FInv Γ ρ σ t)(S:ScOK Γ.c sc cap n)(O:InOK Γ sc vs cl C){h₁:Heap}{k:Tok}{mC:Str→Option Value}(hk:∀a,Keep t.s.heap h₁ a)(hC:t.s.heap.get? C=none)(hN:h₁.Ns C mC)(hc:CapR ρ cap ρc)(hv:∀i∈cap,vs[i]?=Γ.c.vs[i]?):
  FInv (Γ.inner O) ρc σ ⟨{t.s with heap:=h₁,toks:=k},t.g,Al.none,mC⟩:=by
 refine⟨J.h.grown hk,hN,fun i l e=>?_,fun _ _ h=>(non h),fun _ _ _ h=>(non h),fun a ha=>?_⟩
 ·obtain⟨hi,y,rfl,ey⟩:=hc.get e
  obtain⟨m,u,e1,e2,e3⟩:=J.sl i _ ey
  obtain⟨m',e4,e5⟩:=S.caps i hi
  obtain rfl:=sij (e1.symm.trans e4)
  have hm:=mem_of_lookupK e5
  obtain⟨hf,_⟩:=S.free _ hm
  rw[Γ.K]at hf
  cases e3 with
  |v e3=>
  refine⟨m,u,(hv i hi).trans e1,?_,.v e3⟩
  induction e2 with
  |loc q=>rcases hf with w|w<;>exact nomatch q.symm.trans w
  |cell c _ q2 q3=>
   refine .cell c ?_ ((O.clo.all m hm).trans q2) (IsCell_keep (hk c) q3)
   rw[←(Γ.inner O).K]
   exact(relab_look e5).2 rfl
 ·rcases ha with rfl|⟨m,hm⟩
  ·obtain⟨f1,f2⟩:=J.h.fresh hC
   obtain⟨o,_,_,q,_⟩:=hN
   exact⟨⟨f2,f1⟩,fun _ h=>(non h),o,q⟩
  ·obtain⟨q1,_,o,q3⟩:=J.pr a (.inr ⟨m,O.clo.sub m a hm⟩)
   exact⟨q1,fun _ h=>(non h),o,hk a o q3⟩
theorem Iter.inner(h:Iter b Γ I σ t xs)(O:InOK Γ sc vs cl C){h₁:Heap}{k:Tok}{mC:Str→Option Value}(hk:∀a,Keep t.s.heap h₁ a)(hC:t.s.heap.get? C=none):Iter b (Γ.inner O) I σ ⟨{t.s with heap:=h₁,toks:=k},t.g,Al.none,mC⟩ xs:=by
 have a:=h.apart
 obtain⟨o,ho⟩:=a.lv
 have ap:Apart (Γ.inner O) ⟨{t.s with heap:=h₁,toks:=k},t.g,Al.none,mC⟩ I:=⟨a.fr,fun _ h=>(non h),fun q=>q.elim (fun q=>dead_lv (q▸hC) a.lv) fun⟨m,hm⟩=>a.pr (.inr ⟨m,O.clo.sub m _ hm⟩),o,hk I o ho⟩
 induction h with
 |mk i w s _ z l k=>exact .mk i w (w.W.frame _ _ _ s fun b _ o e=>hk b o e) ap z l k
 |ls r i a hb h1 h2 h3 _ h5=>
  obtain⟨o,h3,h6⟩:=h3
  exact .ls r i a hb h1 h2 ⟨o,hk I o h3,h6⟩ ap h5
theorem Clo.ex(J:FInv Γ ρ σ t)(S:ScOK Γ.c sc cap n)(hc:CapR ρ cap ρc):∃cl,Clo Γ.env sc cl:=by
 refine closure_for fun m hm=>?_
 obtain⟨hf,i,hi,hiv⟩:=S.free m hm
 obtain⟨y,ey⟩:=hc.mem hi
 obtain⟨m',u,e1,e2,_⟩:=J.sl i _ ey
 obtain rfl:=sij (hiv.symm.trans e1)
 rw[Γ.K]at hf
 induction e2 with
 |loc q=>rcases hf with w|w<;>exact nomatch q.symm.trans w
 |cell c _ q2 q3=>exact⟨c,q2⟩
theorem comp_block{elt iter:Expr}{px pos:Pos}{ifs:List Expr}{x:Nat}{c:Option E}{e:E}{RR:Value→Addr→Result→Shared→Prop}(S:ScOK Γ.c sc cap n)(clo:Clo Γ.env sc cl)(nd:vs.Nodup)(dbg:∀n,n∈vs→(n==("__debug__":Str))=false∧(n==("__classdict__":Str))=false)
  (hE:okE (innerMt Γ.c vs sc) e elt=true) (hI:okIfs (innerMt Γ.c vs sc) c ifs) (hx:vs[x]?=some n) (J:FInv Γ ρ σ t) {h₀:Heap} {tk:Tok} (hk₀:∀a,Keep t.s.heap h₀ a) (dI:t.s.heap.get? I=none) (J₀:FInv Γ ρ σ (t.on h₀ tk)) (hi:Iter b Γ I σ (t.on h₀ tk) xs) (hc:CapR ρ cap ρc) (hv:∀i∈cap,vs[i]?=Γ.c.vs[i]?) (hl:xs.length≤LIM) (h:Elts X d b x c e ρc xs σ zs σ₁)
  (k:∀D C t' m,FInv Γ ρ σ₁ t'→Step Γ t t'→t'.m=t.m→VRep t'.g (.ref D) (.flist zs)→Apart Γ t' C→t.s.heap.get? C=none→t'.s.heap.Ns C m→RR (.ref D) C (.ok .next) t'.s):
  Wp Γ (newList []) (fun acc s₃=>Wp Γ (newFunctionEnv sc Γ.env.globals cl [] Γ.env.qual none .none (some Γ.env)) (fun cenv s₄=>codeAny (model pw X.X.w) Γ.A (.compStart (.ListComp elt [⟨.Name n px,iter,ifs,0⟩] sc pos) 0 (.ref I) acc {cenv with scope:=relabel sc Γ.env}) (RR acc cenv.locals) s₄) s₃) (t.on h₀ tk).s:=by
 refine wpAny_newObj_type (wpAny_newFunctionEnv S.cell (fun y hy=>nomatch hy) (fun h₁ hN hs=>?_) S.kind)
 dsimp only at hN hs⊢
 have ap:=hi.apart
 generalize eD:h₀.objs.size=D
 generalize eH:h₀.push {cls:=.type "list",dict:=none,data:=.seq ([]:List Value).toArray}=H at hN hs⊢
 have kH:∀a,Keep h₀ H a:=eH▸fun _ _ e=>QD _ e
 have nC:∀{a o},H.get? a=some o→a≠H.objs.size:=fun e=>Nat.ne_of_lt (Heap.lt_size e)
 have kC:∀a,Keep H h₁ a:=fun a o e=>(hs.2 a (nC e)).trans (QD _ e)
 have hk:∀a,Keep h₀ h₁ a:=fun a o e=>kC a o (kH a o e)
 have dC:h₀.get? H.objs.size=none:=none_of_live (fun a ⟨o,e⟩=>⟨o,kH a o e⟩) (get?_none_size H)
 have dD:h₀.get? D=none:=eD▸get?_none_size h₀
 have oD:H.get? D=some {cls:=.type "list",dict:=none,data:=.seq ([]:List Value).toArray}:=eD▸eH▸QF _ rfl
 have old:∀{a},h₀.get? a=none→t.s.heap.get? a=none:=fun e=>none_of_live (fun a ⟨o,e⟩=>⟨o,hk₀ a o e⟩) e
 have O:InOK Γ sc vs cl H.objs.size:=⟨S.kind,nd,dbg,clo,fun n a h q=>dead_lv (q▸dC) (J₀.pr a (.inr ⟨n,h⟩)).2.2⟩
 have JC:=J₀.inner (k:=tk+([]:List (Str × Value)).length) S O hk dC hN hc hv
 have iC:=hi.inner (k:=tk+([]:List (Str × Value)).length) (mC:=fun x=>(([]:List (Str × Value)).reverse).lookup x) O hk dC
 clear hi hN hs
 obtain⟨f1,f2⟩:=J₀.h.fresh dD
 obtain⟨w1,w2,w3⟩:=J.dead (old dD)
 obtain⟨u1,u2,u3⟩:=J.dead (old dC)
 have apD:Apart (Γ.inner O) ⟨{t.s with heap:=h₁,toks:=tk+([]:List (Str × Value)).length},t.g,Al.none,fun x=>(([]:List (Str × Value)).reverse).lookup x⟩ D:=
  ⟨w1,fun _ h=>(non h),fun q=>q.elim (nC oD) fun⟨m,hm⟩=>w3 (.inr ⟨m,clo.sub m _ hm⟩),_,kC D _ oD⟩
 have lc:isLoc (Γ.inner O).c x n=true:=Qq.mpr ⟨QZ hx,QZ ((relab_look S.x).1 nofun)⟩
 have loop:=comp_loop (iter:=iter) (px:=px) (pos:=pos) (sc:=sc) (Γ:=Γ.inner O) (t₀:=⟨t.s,t.g,Al.none,t.m⟩) (R:=RR (.ref D) H.objs.size) hE hI lc (fun e=>dead_lv (e▸dD) ap.lv) dI (old dD) JC (FStep.grown (fun a o e=>hk a o (hk₀ a o e))).up iC apD ⟨⟨[],⟨_,kC D _ oD⟩,.nil⟩,QC _⟩ hl h fun p t' J' st' aD hp=>by
  obtain⟨⟨us,⟨j,ho⟩,R⟩,hz⟩:=hp
  obtain⟨c1,_,c3⟩:=J'.pr H.objs.size (.inl rfl)
  have rD:=mk_list (n:=j) aD.fr.f R hz
  generalize ({cls:=.type "list",data:=.seq us.toArray j}:Obj)=oo at rD ho
  have st:HStep t.g t.s.heap (t'.g.fz D oo) t'.s.heap:=⟨st'.le.trans (.fz aD.fr.f),st'.live,fun a q1 _ _ o e=>st'.kept a q1 (fun _ q=>non q) (fun q=>nomatch (q▸e).symm.trans (old dC)) o e,st'.newi,fun _ _ q=>(non q),fun a o e=>(Gh.fz_of e).elim (fun q=>.inr (.inr (q.1▸old dD))) (st'.newf a o)⟩
  have JF:=J.lift (J'.h.fz aD.fr.f aD.fr.i ho) st
  exact k D _ ⟨t'.s,t'.g.fz D oo,t.α,t.m⟩ _ JF st.up rfl rD ⟨⟨c1.i,(Gh.fz_ne (nC oD).symm).trans c1.f⟩,u2,u3,c3⟩ (old dC) J'.ns
 exact codeAny_compStart_list loop (iC.self loop)
end
inductive LcI(x:Expr)(f:Expr→Str→Expr→List Expr→Scope→Pos→Bool):Prop
 |mk (b n gp y l sc p):x=.ListComp b [⟨.Name n gp,y,l,0⟩] sc p→f b n y l sc p=true→LcI x f
theorem lcomp_{x:Expr}{f:Expr→Str→Expr→List Expr→Scope→Pos→Bool}(h:lcomp x f=true):LcI x f:=by
 obtain⟨e,h⟩:=isE_ (x:=x) (n:=8) (f:=fun u=>u.gens.tail.isEmpty&&u.gens.head?.any fun(g:Comprehension)=>decide (g.is_async=0)&&nam g.target fun n=>f u.e1 n g.iter g.ifs u.sc u.p) (by with_unfolding_all exact h) rfl
 obtain⟨h1,h2⟩:=band h
 obtain⟨⟨tg,y,l,ia⟩,e2,h3⟩:=hd_ (l:=(un x).gens) h2
 obtain⟨h4,h5⟩:=band h3
 obtain⟨n,p,e3,h6⟩:=nam_ h5
 obtain rfl:tg=.Name n p:=e3
 obtain rfl:ia=0:=QX h4
 rw[e2,emp (α:=Comprehension) h1]at e
 exact⟨_,n,p,y,l,_,_,e,h6⟩
inductive FilR:List V→List V→Prop
 |nil:FilR [] []
 |keep {i l l'}:(i != 0)=true→FilR l l'→FilR (.int i::l) (.int i::l')
 |skip {l l'}:FilR l l'→FilR (.int 0::l) l'
section
variable {X:Wd}{d:Nat}{Γ:Fc X d}{ρ ρ₁ ρ₂ ρ₃ ρc:Rho}{σ σ₁ σ₂ σ₃:Sg}{t t' t₀ t₁ t₂:St}{I C:Addr}{v:V}{xs zs:List V}{b:Bool}{sc:Scope}{vs:List Str}{cl:List (Str × Addr)}{cap:List Nat}{n:Str}
theorem FilR.elts{x:Nat}{p:Rho}{q:Sg}(h:FilR xs zs):Elts X d b x (some (.var x)) (.var x) p xs q zs q:=by
 have tst:∀{i:Int} {w:Bool},(i != 0)=w→Tst X d (some (.var x)) (p.put x (.v (.int i))) q (w,q):=fun{i w} h=>t_pl (r_var (Rho.get_self ..)) (h▸.int i) fun c y hy=>by obtain⟨n,p,rfl,_⟩:=nam_ (x:=y) hy;rfl
 induction h with
 |nil=>exact .nil
 |keep h _ ih=>exact .keep (tst h) (r_var (Rho.get_self ..)) (fun _=>rfl) ih
 |skip _ ih=>exact .skip (tst rfl) (fun _=>rfl) ih
theorem heads{x:Nat}{p:Rho}(h:F2 (fun x y=>SubR σ x (.int 0) y) xs zs):Elts X d true x none (.sub (.var x) (.int 0)) p xs σ zs σ:=by
 induction h with
 |nil=>exact .nil
 |cons h _ ih=>exact .keep rfl (r_sub (r_var (Rho.get_self ..)) r_int h) (fun _=>rfl) ih
theorem TupL.size{u:Value}{g:Gh}(h:TupL v xs)(R:VRep g u v):xs.length≤LIM:=by
 have R:=R.inv
 induction h with
 |t=>obtain⟨_,_,_,_,_,_,_,_,_,l⟩:=R;exact l
 |l=>obtain⟨_,_,_,_,_,_,_,_,_,l⟩:=R;exact l
theorem wp_iterS{u:Value}{c:Bool}(h:SeqR σ v c xs)(J:FInv Γ ρ σ t)(R:VRep t.g u v){Q:Value→Shared→Prop}(k:∀I h' tk,xs.length≤LIM→(∀a,Keep t.s.heap h' a)→t.s.heap.get? I=none→FInv Γ ρ σ (t.on h' tk)→Iter true Γ I σ (t.on h' tk) xs→Q (.ref I) (t.on h' tk).s):Wp Γ (pyIter u) Q t.s:=by
 cases h with
 |tup=>exact wp_iter (.t xs) J R fun I h' tk=>k I h' tk ((TupL.t xs).size R)
 |fl=>exact wp_iter (.l xs) J R fun I h' tk=>k I h' tk ((TupL.l xs).size R)
 | @ls r _ e=>
  obtain⟨a,rfl,ha,hp⟩:=R.obj J.h e
  obtain⟨⟨vs,hp,_⟩,hl⟩:=hp
  have hk:∀c,Keep t.s.heap (t.s.heap.push {cls:=.type "list_iterator",data:=.fields #[.ref a,.int 0 0]}) c:=fun _ _ e=>QD _ e
  have J':FInv Γ ρ σ (t.on (t.s.heap.push {cls:=.type "list_iterator",data:=.fields #[.ref a,.int 0 0]}) t.s.toks):=J.lift (J.h.grown hk) (.grown hk)
  obtain⟨h1,h2,h3⟩:=J.dead (get?_none_size t.s.heap)
  have lv:=QF t.s.heap (o:={cls:=.type "list_iterator",data:=.fields #[.ref a,.int 0 0]}) rfl
  exact wpAny_pyIter_list hp.isList (k _ _ t.s.toks hl hk (get?_none_size _) J' (.ls (zs:=xs) r 0 a rfl e ha ⟨_,lv,rfl,rfl⟩ ⟨h1,h2,h3,_,lv⟩ (QC _)))
theorem comp_end{D:Addr}{h':Heap}(J:FInv Γ ρ σ t)(st:Step Γ t₀ t)(hm:t.m=t₀.m)(R:VRep t.g (.ref D) v)(aC:Apart Γ t C)(dC:t₀.s.heap.get? C=none)(hs:Heap.SameBut C t.s.heap h'):PE Γ t₀ (v,ρ,σ) (.ref D) {t.s with heap:=h'}:=by
 have hk:∀b,¬b=C→Keep t.s.heap h' b:=fun b hb o e=>(hs.2 b hb).trans e
 exact .mk (t.on h' t.s.toks) (J.quiet hk fun b hb=>hb▸aC) hm R (Step.quiet st hk fun b hb=>hb▸dC)
theorem wp_comp{y elt:Expr}{gp p:Pos}{ifs:List Expr}{c:Option E}{e it:E}(S:ScOK Γ.c sc [] n)(dbg:(n==("__debug__":Str))=false∧(n==("__classdict__":Str))=false)(hE:okE (innerMt Γ.c [n] sc) e elt=true)(hI:okIfs (innerMt Γ.c [n] sc) c ifs)(hy:okE Γ.c it y=true)(hs:notSet y=true)
  (J:FInv Γ ρ σ t) (h1:OkE X d it ρ σ (v,ρ₁,σ₁)) {w:Bool} (h2:SeqR σ₁ v w xs) (h:Elts X d true 0 c e [] xs σ₁ zs σ₂):Wp Γ (eval (.ListComp elt [⟨.Name n gp,y,ifs,0⟩] sc p) Γ.env) (PE Γ t (.flist zs,ρ₁,σ₂)) t.s:=by
 obtain⟨cl,clo⟩:=Clo.ex J S .nil
 rw[eval_ListComp]
 refine wpAny_comprehension_free (use:=none) rfl (fold_no hs) clo.eq S.kind S.loc (h1.go hy J fun u t₁ J₁ m₁ R₁ s₁=>wp_iterS h2 J₁ R₁ fun I h' tk hl hk dI J₀ hi=>?_)
 exact comp_block (RR:=fun acc C=>compPost (model pw X.X.w) Γ.A NoE none _ acc C) S clo (QU.mpr ⟨List.not_mem_nil,.nil⟩) (fun m hm=>Qk.mp hm▸dbg) hE hI rfl J₁ hk dI J₀ hi .nil (fun _ h=>nomatch h) hl h
  fun D C t' m J' st' m' R' aC dC ns=>⟨m,ns,fun h'' hs=>comp_end J' (s₁.trans st') (m'.trans m₁) R' aC (none_of_live s₁.live dC) hs⟩
theorem r_compF{x:Nat}{it:E}(h1:OkE X d it ρ σ (.tup xs,ρ₁,σ₁))(h:FilR xs zs):OkE X d (.compF x it) ρ σ (.flist zs,ρ₁,σ₁):=by
 intro Γ y t hx J
 replace hx:=lcomp_ hx;obtain⟨b,n,gp,y,l,sc,p,rfl,hx⟩:=hx
 obtain⟨hx,q6⟩:=band hx
 obtain⟨hx,q5⟩:=band hx
 obtain⟨hx,q4⟩:=band hx
 obtain⟨hx,q3⟩:=band hx
 obtain⟨hx,q2⟩:=band hx
 obtain⟨q0,q1⟩:=band hx
 obtain⟨z,ez,q7,_⟩:=one_ (l:=l) q3
 exact wp_comp (c:=some (.var 0)) (e:=.var 0) (scOK q6) ⟨Bool.not_eq_true' _▸q4,Bool.not_eq_true' _▸q5⟩ q2 ⟨z,ez,q7⟩ q0 q1 J h1 (.tup xs) h.elts
theorem r_compS{x:Nat}{it:E}{w:Bool}(h1:OkE X d it ρ σ (v,ρ₁,σ₁))(h2:SeqR σ₁ v w xs)(h:F2 (fun x y=>SubR σ₁ x (.int 0) y) xs zs):OkE X d (.compS x it) ρ σ (.flist zs,ρ₁,σ₁):=by
 intro Γ y t hx J
 replace hx:=lcomp_ hx;obtain⟨b,n,gp,y,l,sc,p,rfl,hx⟩:=hx
 obtain⟨hx,q6⟩:=band hx
 obtain⟨hx,q5⟩:=band hx
 obtain⟨hx,q4⟩:=band hx
 obtain⟨hx,q3⟩:=band hx
 obtain⟨hx,q2⟩:=band hx
 obtain⟨q0,q1⟩:=band hx
 exact wp_comp (c:=none) (e:=.sub (.var 0) (.int 0)) (scOK q6) ⟨Bool.not_eq_true' _▸q4,Bool.not_eq_true' _▸q5⟩ q2 (emp q3) q0 q1 J h1 h2 (heads h)
end
theorem swaps_yes{env:Env}{b:Expr}{gs:List Comprehension}{sc:Scope}{lp tp:Pos}{t:Str}{l:Nat}(hk:env.scope.kind=.function)(ht:env.kindOf t=some .local)(hl:(tp.line==lp.line)=true)(hn:(!(sc.names.any fun z=>z.1==t&&(z.2==.local||z.2==.cell)))=true):
  swapsWith (.ListComp b gs sc lp) (some (.Name t tp)) l env=pure true:=by
 show(pure (env.blockKind==.function&&env.kindOf t==some .local&&tp.line==lp.line&&!(sc.names.any fun(z:Str × NameKind)=>z.1==t&&(z.2==.local||z.2==.cell))):Sem Bool)=pure true
 have hb:env.blockKind=.function:=by unfold Env.blockKind;rw[hk];rfl
 rw[hb,ht,hl,hn]
 rfl
section
variable {X:Wd}{d:Nat}{Γ:Fc X d}{ρ ρ₁ ρ₂ ρ₃ ρc:Rho}{σ σ₁ σ₂ σ₃:Sg}{t t' t₀ t₁ t₂:St}{I C:Addr}{v:V}{xs zs:List V}{b:Bool}{sc:Scope}{vs:List Str}{cl:List (Str × Addr)}{cap:List Nat}{n:Str}
theorem comp_stmt{elt iter:Expr}{m:Str}{tp px lp pos:Pos}{Q:Flow→Shared→Prop}{s:Shared}(hsw:swapsWith (.ListComp elt [⟨.Name n px,iter,[],0⟩] sc lp) (some (.Name m tp)) pos.line Γ.env=pure true)(clo:Clo Γ.env sc cl)(S:ScOK Γ.c sc cap n)(hs:∀x,foldedSetIterable iter Γ.env x=pure x)
  (h:Wp Γ (eval iter Γ.env) (fun xv s₁=>Wp Γ (pyIter xv) (fun it s₂=>Wp Γ (newList []) (fun acc s₃=>Wp Γ (newFunctionEnv sc Γ.env.globals cl [] Γ.env.qual none .none (some Γ.env)) (fun cenv s₄=>
   codeAny (model pw X.X.w) Γ.A (.compStart (.ListComp elt [⟨.Name n px,iter,[],0⟩] sc lp) 0 it acc {cenv with scope:=relabel sc Γ.env})
    (compPost (model pw X.X.w) Γ.A NoE (some (assign (.Name m tp) Γ.env)) (fun _ s'=>Q .next s') acc cenv.locals) s₄) s₃) s₂) s₁) s):
  Wp Γ (exec (.Assign [.Name m tp] (.ListComp elt [⟨.Name n px,iter,[],0⟩] sc lp) pos) Γ.env) Q s:=by
 rw[exec_Assign_Name_used _ _ _ _ hsw]
 refine QV (wpAny_standAt (QV ?_))
 show wpAny _ Γ.A (do let _ ← comprehension (.ListComp elt [⟨.Name n px,iter,[],0⟩] sc lp) sc Γ.env _ (newList []) false (eval iter Γ.env) (some (assign (.Name m tp) Γ.env))) _ _ s
 exact QV (wpm (wpAny_comprehension_free (use:=some (assign (.Name m tp) Γ.env)) (Q:=fun _ s'=>Q .next s') rfl hs clo.eq S.kind S.loc h) fun _ s' hq=>QW (QW hq))
theorem comp_asg{elt iter:Expr}{m:Str}{px tp pos:Pos}{x j:Nat}{e:E}(S:ScOK Γ.c sc cap n)(clo:Clo Γ.env sc cl)(hE:okE (innerMt Γ.c Γ.c.vs sc) e elt=true)(hx:isVar Γ.c x n=true)(hl:isLoc Γ.c j m=true)(st:Step Γ t₀ t)(J:FInv Γ ρ σ t)(hc:CapR ρ cap ρc)(h:Elts X d false x none e ρc xs σ zs σ₁)(hz:xs.length≤LIM)
  {I:Addr} {h':Heap} {tk:Tok} (hk:∀a,Keep t.s.heap h' a) (dI:t.s.heap.get? I=none) (J':FInv Γ ρ σ (t.on h' tk)) (hi:Iter false Γ I σ (t.on h' tk) xs):
  Wp Γ (newList []) (fun acc s₃=>Wp Γ (newFunctionEnv sc Γ.env.globals cl [] Γ.env.qual none .none (some Γ.env)) (fun cenv s₄=>
   codeAny (model pw X.X.w) Γ.A (.compStart (.ListComp elt [⟨.Name n px,iter,[],0⟩] sc pos) 0 (.ref I) acc {cenv with scope:=relabel sc Γ.env})
    (compPost (model pw X.X.w) Γ.A NoE (some (assign (.Name m tp) Γ.env)) (fun _ s'=>PS Γ t₀ (.next,ρ.put j (.v (.flist zs)),σ₁) .next s') acc cenv.locals) s₄) s₃) (t.on h' tk).s:=
 comp_block (RR:=fun acc C=>compPost (model pw X.X.w) Γ.A NoE (some (assign (.Name m tp) Γ.env)) (fun _ s'=>PS Γ t₀ (.next,ρ.put j (.v (.flist zs)),σ₁) .next s') acc C) (c:=none) S clo Γ.ok.nodup Γ.ok.nodbg hE rfl (QX hx) J hk dI J' hi hc (fun _ _=>rfl) hz h
  fun D C t₁ m J₁ s₁ m' R₁ aC dC ns=>by
   show wpAny _ Γ.A (assign (.Name _ tp) Γ.env (.ref D)) _ _ _
   refine assign_Name (wp_store hl J₁ R₁ (.refl ..) fun t₂ J₂ s₂=>⟨m,Ns_keep (aC.keep s₂) ns,fun h'' hs=>?_⟩)
   have hk:∀b,¬b=C→Keep t₂.s.heap h'' b:=fun b hb o e=>(hs.2 b hb).trans e
   exact PS.next (t₁:=t₂.on h'' t₂.s.toks) (J₂.quiet hk fun b hb=>hb▸aC.step s₂) (Step.quiet ((st.trans s₁).trans s₂) hk fun b hb=>hb▸none_of_live st.live dC)
inductive ACI(c:Mt)(x:Stmt)(j i:Nat)(cap:List Nat)(e:E)(f:Expr→Bool):Prop
 |mk (m tp b n px y sc lp pos):x=.Assign [.Name m tp] (.ListComp b [⟨.Name n px,y,[],0⟩] sc lp) pos→f y=true→isVar c i n=true→ScOK c sc cap n→okE (innerMt c c.vs sc) e b=true→isLoc c j m=true→(tp.line==lp.line)=true→(!(sc.names.any fun z=>z.1==m&&(z.2==.local||z.2==.cell)))=true→ACI c x j i cap e f
theorem asgC_{c:Mt}{g:Bool}{j i:Nat}{cap:List Nat}{e it:E}{x:Stmt}(h:okS c (.asgC g j cap e i it) x=true):ACI c x j i cap e fun y=>@Bool.rec (fun _=>Bool) (callN y fun m q=>isGlob c m (.ty "range")&&one q (okE c it)) (okE c it y&&notSet y) g:=by
 replace h:=asg_ h;obtain⟨t,v,p,rfl,h⟩:=h
 replace h:=isE_ h rfl;obtain⟨et,h⟩:=h
 replace h:=lcomp_ h;obtain⟨b,n,gp,y,l,sc,lp,rfl,h⟩:=h
 obtain⟨h,q7⟩:=band h
 obtain⟨h,q6⟩:=band h
 obtain⟨h,q5⟩:=band h
 obtain⟨h,q4⟩:=band h
 obtain⟨h,q3⟩:=band h
 obtain⟨h,q2⟩:=band h
 obtain⟨q0,q1⟩:=band h
 exact .mk _ _ b n gp y sc lp p (by rw[emp (α:=Expr) q7];exact congrArg (fun z=>Stmt.Assign [z] _ _) et) q0 q1 (scOK q2) q3 q4 q5 q6
theorem s_asgC{x j:Nat}{e it:E}(h1:OkE X d it ρ σ (v,ρ₁,σ₁))(hv:TupL v xs)(hc0:CapR ρ cap ρc)(hc:CapR ρ₁ cap ρc)(h:Elts X d false x none e ρc xs σ₁ zs σ₂):OkS X d (.asgC true j cap e x it) ρ σ (.next,ρ₁.put j (.v (.flist zs)),σ₂):=by
 intro Γ st t hx J
 replace hx:=asgC_ hx;obtain⟨m,tp,b,n,px,y,sc,lp,pos,rfl,q0,q1,S,q3,q4,q5,q6⟩:=hx
 obtain⟨q7,q8⟩:=band q0
 obtain⟨cl,clo⟩:=Clo.ex J S hc0
 exact comp_stmt (swaps_yes Γ.ok.kind (Γ.K▸(loc_ q4).2) q5 q6) clo S (fold_no q8) (h1.go q7 J fun u t₁ J₁ m₁ R₁ s₁=>wp_iter hv J₁ R₁ fun I h' tk hk hd J₂ hi=>comp_asg S clo q3 q1 q4 s₁ J₁ hc h (hv.size R₁) hk hd J₂ hi)
theorem s_asgR{x j k:Nat}{e it:E}(h1:OkE X d it ρ σ (.int (.ofNat k),ρ₁,σ₁))(hn:k≤LIM)(hc0:CapR ρ cap ρc)(hc:CapR ρ₁ cap ρc)(h:Elts X d false x none e ρc (rng 0 k) σ₁ zs σ₂):OkS X d (.asgC false j cap e x it) ρ σ (.next,ρ₁.put j (.v (.flist zs)),σ₂):=by
 intro Γ st t hx J
 replace hx:=asgC_ hx;obtain⟨m,tp,b,n,px,y,sc,lp,pos,rfl,q0,q1,S,q3,q4,q5,q6⟩:=hx
 obtain⟨n',p',l,q,rfl,q7⟩:=callN_ q0
 obtain⟨q8,q9⟩:=band q7
 obtain⟨z,ez,qa,qb⟩:=one_ (l:=l) q9
 obtain⟨cl,clo⟩:=Clo.ex J S hc0
 rw[ez]
 refine comp_stmt (swaps_yes Γ.ok.kind (Γ.K▸(loc_ q4).2) q5 q6) clo S (fold_no rfl) (wpAny_Call_Name_kw (wp_glob J q8 fun u hu=>?_))
 cases hu
 rw[starEach_cons qb]
 exact PySem.callWith_type1 (h1.go qa J fun u t₁ J₁ m₁ R₁ s₁=>wp_range J₁ R₁ hn fun I h' tk hk hd J₂ hi=>comp_asg S clo q3 q1 q4 s₁ J₁ hc h (rng_len▸hn) hk hd J₂ hi)
end
noncomputable abbrev ob{α β:Type}(x:Option α)(f:α→Option β):Option β:=@Option.rec α (fun _=>Option β) none f x
noncomputable abbrev cV{α:Type}(v:V)(nn:Option α:=none)(bl:Bool→Option α:=fun _=>none)(it:Int→Option α:=fun _=>none)(st:Nat→Option α:=fun _=>none)(tp fl:List V→Option α:=fun _=>none)(rf gd:Nat→Option α:=fun _=>none):Option α:=@V.casesOn (fun _=>Option α) v nn bl it st tp fl rf gd
noncomputable abbrev cO{α:Type}(m:MObj)(ls:List V→Option α:=fun _=>none)(di:List (Int × V)→Option α:=fun _=>none)(ds:List (Nat × V)→Option α:=fun _=>none)(ic:Addr→Nat→Option α:=fun _ _=>none)(da:List (Nat × V)→Option α:=fun _=>none)(dt:List (V × V)→Option α:=fun _=>none):Option α:=@MObj.casesOn (fun _=>Option α) m ls di ds ic da dt none
noncomputable abbrev cI{α:Type}(i:Int)(p:Nat→Option α)(n:Nat→Option α:=fun _=>none):Option α:=@Int.casesOn (fun _=>Option α) i p n
noncomputable def nat(v:V):Option Nat:=cV v (it:=fun i=>cI i some)
noncomputable def inV(v:V):Option Int:=cV v (it:=some)
noncomputable def stV(v:V):Option Nat:=cV v (st:=some)
theorem inV_{v:V}{i:Int}(h:inV v=some i):v=.int i:=by
 cases v with
 |int j=>exact congrArg _ (sij h)
 |_=>exact non h
theorem stV_{v:V}{i:Nat}(h:stV v=some i):v=.str i:=by
 cases v with
 |str j=>exact congrArg _ (sij h)
 |_=>exact non h
noncomputable def sqN(σ:Sg)(v:V):Option (List V):=cV v (tp:=some) (fl:=some) (rf:=fun r=>ob σ[r]? fun m=>cO m (ls:=some))
noncomputable def lsN(σ:Sg)(v:V):Option (List V):=cV v (fl:=some) (rf:=fun r=>ob σ[r]? fun m=>cO m (ls:=some))
noncomputable def tuN(v:V):Option (List V):=cV v (tp:=some) (fl:=some)
noncomputable def rfN(v:V):Option Nat:=cV v (rf:=some)
noncomputable def subN(σ:Sg)(v u:V):Option V:=cV u
 (it:=fun i=>cI i (fun j=>cV v (tp:=fun xs=>xs[j]?) (fl:=fun xs=>xs[j]?) (rf:=fun r=>ob σ[r]? fun m=>cO m (ls:=fun xs=>xs[j]?) (di:=fun kvs=>lookA kvs (.ofNat j))))
  fun j=>cV v (fl:=fun xs=>seqL xs j) (rf:=fun r=>ob σ[r]? fun m=>cO m (ls:=fun xs=>seqL xs j) (di:=fun kvs=>lookA kvs (.negSucc j))))
 (st:=fun n=>cV v (rf:=fun r=>ob σ[r]? fun m=>cO m (ds:=fun kvs=>lookA kvs n)))
theorem ob_{α β:Type}{x:Option α}{f:α→Option β}{b:β}(h:ob x f=some b):∃a,x=some a∧f a=some b:=by
 induction x with
 |none=>exact non h
 |some a=>exact⟨a,rfl,h⟩
theorem nat_{v:V}{n:Nat}(h:nat v=some n):v=.int (.ofNat n):=by
 cases v with
 |int i=>
  induction i with
  |ofNat j=>exact congrArg (fun n=>V.int (.ofNat n)) (sij h)
  |negSucc j=>exact non h
 |_=>exact non h
theorem ls_{σ:Sg}{r:Nat}{xs:List V}(h:(ob σ[r]? fun m=>cO m (ls:=some))=some xs):σ[r]?=some (.list xs):=by
 obtain⟨m,e,h⟩:=ob_ h
 induction m with
 |list ys=>exact e.trans (congrArg (fun x=>some (MObj.list x)) (sij h))
 |_=>exact non h
theorem sqN_{σ:Sg}{v:V}{xs:List V}(h:sqN σ v=some xs):∃b,SeqR σ v b xs:=by
 cases v with
 |tup ys=>exact⟨true,sij h▸.tup _⟩
 |flist ys=>exact⟨false,sij h▸.fl _⟩
 |ref r=>exact⟨false,.ls (ls_ h)⟩
 |_=>exact non h
theorem lsN_{σ:Sg}{v:V}{xs:List V}(h:lsN σ v=some xs):SeqR σ v false xs:=by
 cases v with
 |flist ys=>exact sij h▸.fl _
 |ref r=>exact .ls (ls_ h)
 |_=>exact non h
theorem tuN_{v:V}{xs:List V}(h:tuN v=some xs):TupL v xs:=by
 cases v with
 |tup ys=>exact sij h▸.t _
 |flist ys=>exact sij h▸.l _
 |_=>exact non h
theorem rfN_{v:V}{r:Nat}(h:rfN v=some r):v=.ref r:=by
 cases v with
 |ref j=>exact congrArg _ (sij h)
 |_=>exact non h
theorem subN_{σ:Sg}{v u w:V}(h:subN σ v u=some w):SubR σ v u w:=by
 cases u with
 |int i=>
  induction i with
  |ofNat j=>
   cases v with
   |tup xs=>exact .nth (.tup xs) h
   |flist xs=>exact .nth (.fl xs) h
   |ref r=>
    obtain⟨m,e,h⟩:=ob_ h
    induction m with
    |list xs=>exact .nth (.ls e) h
    |idict kvs=>exact .ikey e h
    |_=>exact non h
   |_=>exact non h
  |negSucc j=>
   cases v with
   |flist xs=>exact .last (.fl xs) h
   |ref r=>
    obtain⟨m,e,h⟩:=ob_ h
    induction m with
    |list xs=>exact .last (.ls e) h
    |idict kvs=>exact .ikey e h
    |_=>exact non h
   |_=>exact non h
 |str n=>
  cases v with
  |ref r=>
   obtain⟨m,e,h⟩:=ob_ h
   induction m with
   |sdict kvs=>exact .skey e h
   |_=>exact non h
  |_=>exact non h
 |_=>exact non h
noncomputable def binN(o:Bop)(v u:V):Option (Bool × V):=cV v
 (it:=fun i=>cV u (it:=fun j=>@Bop.casesOn (fun _=>Option (Bool × V)) o (some (true,.int (i+j))) (some (true,.int (i - j))) (some (mulOk j,.int (i*j))) (some (divOk j,.int (i / j))) (some (divOk j,.int (i % j)))))
 (tp:=fun xs=>cV u (tp:=fun ys=>@Bop.casesOn (fun _=>Option (Bool × V)) o (some (Nat.ble (xs.length+ys.length) LIM,.tup (xs++ys))) none none none none))
 (fl:=fun xs=>cV u (fl:=fun ys=>@Bop.casesOn (fun _=>Option (Bool × V)) o (some (Nat.ble (xs.length+ys.length) LIM,.flist (xs++ys))) none none none none))
theorem spj{α:Type}{b c:Bool}{x y:α}(h:some (b,x)=some (c,y))(e:c=true):b=true∧x=y:=by
 injection h with h
 injection h with h1 h2
 exact⟨h1.trans e,h2⟩
theorem binN_{o:Bop}{v u w:V}{c:Bool}(h:binN o v u=some (c,w))(hc:c=true):BinR o v u w:=by
 cases v with
 |int i=>
  cases u with
  |int j=>
   induction o with
   |add=>obtain⟨_,rfl⟩:=spj h hc;exact .add ..
   |sub=>obtain⟨_,rfl⟩:=spj h hc;exact .sub ..
   |mul=>obtain⟨h1,rfl⟩:=spj h hc;exact .mul _ _ h1
   |fdiv=>obtain⟨h1,rfl⟩:=spj h hc;exact .fdiv _ _ h1
   |mod=>obtain⟨h1,rfl⟩:=spj h hc;exact .mod _ _ h1
  |_=>exact non h
 |tup xs=>
  cases u with
  |tup ys=>induction o<;>first|(obtain⟨h1,rfl⟩:=spj h hc;exact .tups _ _ (QO h1))|exact non h
  |_=>exact non h
 |flist xs=>
  cases u with
  |flist ys=>induction o<;>first|(obtain⟨h1,rfl⟩:=spj h hc;exact .fls _ _ (QO h1))|exact non h
  |_=>exact non h
 |_=>exact non h
noncomputable def emB(l:List V):Bool:=@List.rec V (fun _=>Bool) true (fun _ _ _=>false) l
noncomputable def truN(v:V):Option Bool:=cV v (nn:=some false) (bl:=some) (it:=fun i=>some (i != 0)) (tp:=fun xs=>some (!emB xs)) (fl:=fun xs=>some (!emB xs))
theorem emB_(l:List V):emB l=l.isEmpty:=by induction l<;>rfl
theorem truN_{v:V}{w:Bool}(h:truN v=some w):TruR v w:=by
 cases v with
 |none=>exact sij h▸.none
 |bool b=>exact sij h▸.bool b
 |int i=>exact sij h▸.int i
 |tup xs=>exact sij h▸emB_ xs▸.tup xs
 |flist xs=>exact sij h▸emB_ xs▸.fl xs
 |_=>exact non h
noncomputable def dicN(σ:Sg)(v:V):Option (List (Int × V)):=cV v (rf:=fun r=>ob σ[r]? fun m=>cO m (di:=some)) (gd:=fun t=>some (placeTab t))
theorem dicN_{σ:Sg}{v:V}{kvs:List (Int × V)}(h:dicN σ v=some kvs):IDic σ v kvs:=by
 cases v with
 |ref r=>
  obtain⟨m,e,h⟩:=ob_ h
  induction m with
  |idict ys=>exact sij h▸.i e
  |_=>exact non h
 |gd t=>exact sij h▸.g t
 |_=>exact non h
noncomputable def iiN(f:Int→Int→Bool)(v u:V):Option Bool:=ob (inV v) fun i=>ob (inV u) fun j=>some (f i j)
theorem iiN_{f:Int→Int→Bool}{v u:V}{w:Bool}(h:iiN f v u=some w):∃i j,v=.int i∧u=.int j∧w=f i j:=by
 obtain⟨i,h1,h⟩:=ob_ h
 obtain⟨j,h2,h⟩:=ob_ h
 exact⟨i,j,inV_ h1,inV_ h2,(sij h).symm⟩
noncomputable def nnN(f:Bool→Bool)(v u:V):Option Bool:=cV u (nn:=some (f (isNv v)))
theorem nnN_{f:Bool→Bool}{v u:V}{w:Bool}(h:nnN f v u=some w):u=.none∧w=f (isNv v):=by
 cases u with
 |none=>exact⟨rfl,(sij h).symm⟩
 |_=>exact non h
noncomputable def meN(σ:Sg)(f:Bool→Bool)(v u:V):Option Bool:=cV v (it:=fun k=>cV u (tp:=fun xs=>ob (intsMem k xs) fun t=>some (f t)) (rf:=fun r=>ob (dicN σ (.ref r)) fun kvs=>some (f (lookA kvs k).isSome)) (gd:=fun t=>some (f (lookA (placeTab t) k).isSome)))
theorem meN_{σ:Sg}{f:Bool→Bool}{v u:V}{w:Bool}(h:meN σ f v u=some w):∃t,CmpR σ .inn v u t∧CmpR σ .notin v u (!t)∧w=f t:=by
 cases v with
 |int k=>
  cases u with
  |tup xs=>obtain⟨t,h1,h2⟩:=ob_ h;exact⟨t,.inn h1,.notin h1,(sij h2).symm⟩
  |ref r=>obtain⟨kvs,h1,h2⟩:=ob_ h;exact⟨_,.ink (dicN_ h1),.notink (dicN_ h1),(sij h2).symm⟩
  |gd t=>exact⟨_,.ink (.g t),.notink (.g t),(sij h).symm⟩
  |_=>exact non h
 |_=>exact non h
noncomputable def cmpN(σ:Sg)(o:Cop)(v u:V):Option Bool:=@Cop.casesOn (fun _=>Option Bool) o
 (iiN (fun i j=>i==j) v u) (iiN (fun i j=>!(i==j)) v u) (iiN (fun i j=>decide (i < j)) v u) (iiN (fun i j=>decide (i > j)) v u) (iiN (fun i j=>decide (i≤j)) v u) (iiN (fun i j=>decide (i≥j)) v u)
 (nnN id v u) (nnN not v u) (meN σ id v u) (meN σ not v u)
theorem cmpN_{σ:Sg}{o:Cop}{v u:V}{w:Bool}(h:cmpN σ o v u=some w):CmpR σ o v u w:=by
 induction o with
 |eq=>obtain⟨i,j,rfl,rfl,rfl⟩:=iiN_ h;exact .eq (.int ..)
 |ne=>obtain⟨i,j,rfl,rfl,rfl⟩:=iiN_ h;exact .ne (.int ..)
 |lt=>obtain⟨i,j,rfl,rfl,rfl⟩:=iiN_ h;exact .lt ..
 |gt=>obtain⟨i,j,rfl,rfl,rfl⟩:=iiN_ h;exact .gt ..
 |le=>obtain⟨i,j,rfl,rfl,rfl⟩:=iiN_ h;exact .le ..
 |ge=>obtain⟨i,j,rfl,rfl,rfl⟩:=iiN_ h;exact .ge ..
 |isN=>obtain⟨rfl,rfl⟩:=nnN_ h;exact .isN v
 |isntN=>obtain⟨rfl,rfl⟩:=nnN_ h;exact .isntN v
 |inn=>obtain⟨t,h1,_,rfl⟩:=meN_ h;exact h1
 |notin=>obtain⟨t,_,h1,rfl⟩:=meN_ h;exact h1
noncomputable def bltN(σ:Sg)(f:Blt)(v:V):Option V:=@Blt.casesOn (fun _=>Option V) f (ob (sqN σ v) fun xs=>some (.int xs.length)) (ob (sqN σ v) fun xs=>some (.tup xs)) (cV v (bl:=fun b=>some (.int (@Bool.rec (fun _=>Int) 0 1 b)))) none
theorem bltN_{σ:Sg}{f:Blt}{v w:V}(h:bltN σ f v=some w):BltR σ f v w:=by
 induction f with
 |len=>obtain⟨xs,h1,h2⟩:=ob_ h;obtain⟨b,h3⟩:=sqN_ h1;exact sij h2▸.len h3
 |tuple=>obtain⟨xs,h1,h2⟩:=ob_ h;obtain⟨b,h3⟩:=sqN_ h1;exact sij h2▸.tuple h3
 |int=>
  cases v with
  |bool b=>exact sij h▸.int b
  |_=>exact non h
 |sum=>exact non h
noncomputable def upN(v u:V):Option (Bool × V):=ob (nat u) fun j=>cV v (tp:=fun xs=>some (Nat.blt j xs.length,.tup (xs.take j))) (fl:=fun xs=>some (true,.flist (xs.take j)))
theorem upN_{v u w:V}{c:Bool}(h:upN v u=some (c,w))(hc:c=true):UpR v u w:=by
 obtain⟨j,h1,h⟩:=ob_ h
 obtain rfl:=nat_ h1
 cases v with
 |tup xs=>obtain⟨h2,rfl⟩:=spj h hc;exact .tup (Qs.mp h2)
 |flist xs=>obtain⟨_,rfl⟩:=spj h hc;exact .fl xs j
 |_=>exact non h
noncomputable def frN(v u:V):Option (Bool × V):=ob (nat u) fun j=>cV v (tp:=fun xs=>some (Nat.blt 0 j&&Nat.ble j xs.length,.tup (xs.drop j)))
theorem frN_{v u w:V}{c:Bool}(h:frN v u=some (c,w))(hc:c=true):FrR v u w:=by
 obtain⟨j,h1,h⟩:=ob_ h
 obtain rfl:=nat_ h1
 cases v with
 |tup xs=>
  obtain⟨h2,rfl⟩:=spj h hc
  obtain⟨h3,h4⟩:=band h2
  exact .mk (Qs.mp h3) (QO h4)
 |_=>exact non h
noncomputable def miN(σ:Sg)(v u z:V):Option (Bool × V):=ob (nat u) fun i=>ob (nat z) fun j=>ob (lsN σ v) fun xs=>some (Nat.ble i j&&Nat.ble j xs.length,.flist ((xs.take j).drop i))
theorem miN_{σ:Sg}{v u z w:V}{c:Bool}(h:miN σ v u z=some (c,w))(hc:c=true):MiR σ v u z w:=by
 obtain⟨i,h1,h⟩:=ob_ h
 obtain⟨j,h2,h⟩:=ob_ h
 obtain⟨xs,h3,h⟩:=ob_ h
 obtain⟨h4,rfl⟩:=spj h hc
 obtain⟨h5,h6⟩:=band h4
 rw[nat_ h1,nat_ h2]
 exact .mk (lsN_ h3) (QO h5) (QO h6)
structure Ins where
 c:Addr
 d:Nat
 kvs:List (Nat × V)
noncomputable def inN(σ:Sg)(v:V):Option Ins:=cV v (rf:=fun r=>ob σ[r]? fun m=>cO m (ic:=fun c d=>ob σ[d]? fun m=>cO m (da:=fun kvs=>some ⟨c,d,kvs⟩)))
theorem inN_{σ:Sg}{v:V}{i:Ins}(h:inN σ v=some i):InsR σ v i.c i.d i.kvs:=by
 cases v with
 |ref r=>
  obtain⟨m,e,h⟩:=ob_ h
  induction m with
  |inst c d=>
   obtain⟨m,e2,h⟩:=ob_ h
   induction m with
   |adict kvs=>exact sij h▸.mk e e2
   |_=>exact non h
  |_=>exact non h
 |_=>exact non h
inductive AtR(σ:Sg)(v:V)(n:Nat)(w:V):Prop
 |mk (i:Ins):InsR σ v i.c i.d i.kvs→lookA i.kvs n=some w→AtR σ v n w
noncomputable def atN(σ:Sg)(v:V)(n:Nat):Option V:=ob (inN σ v) fun i=>lookA i.kvs n
theorem atN_{σ:Sg}{v w:V}{n:Nat}(h:atN σ v n=some w):AtR σ v n w:=by
 obtain⟨i,h1,h2⟩:=ob_ h
 exact .mk i (inN_ h1) h2
inductive SaR(σ:Sg)(v:V)(n:Nat)(w:V):Sg→Prop
 |mk (i:Ins):InsR σ v i.c i.d i.kvs→i.kvs.length < 100→SaR σ v n w (σ.set i.d (.adict (storedF i.kvs n w)))
noncomputable def saN(σ:Sg)(v:V)(n:Nat)(w:V):Option (Bool × Sg):=ob (inN σ v) fun i=>some (Nat.blt i.kvs.length 100,σ.set i.d (.adict (storedF i.kvs n w)))
theorem saN_{σ σ':Sg}{v w:V}{n:Nat}{c:Bool}(h:saN σ v n w=some (c,σ'))(hc:c=true):SaR σ v n w σ':=by
 obtain⟨i,h1,h⟩:=ob_ h
 obtain⟨h2,rfl⟩:=spj h hc
 exact .mk i (inN_ h1) (Qs.mp h2)
noncomputable def getN(σ:Sg)(v k d:V):Option (Bool × V):=cV k (it:=fun k=>ob (dicN σ v) fun kvs=>some (true,(lookA kvs k).getD d)) (tp:=fun xs=>cV v (rf:=fun r=>ob σ[r]? fun m=>cO m (dt:=fun kvs=>ob (tkA (.tup xs)) fun t=>some (noKey t.1 kvs,d))))
theorem getN_{σ:Sg}{v k d w:V}{c:Bool}(h:getN σ v k d=some (c,w))(hc:c=true):GetR σ v k d w:=by
 cases k with
 |int k=>obtain⟨kvs,h1,h⟩:=ob_ h;obtain⟨_,rfl⟩:=spj h hc;exact .i (dicN_ h1)
 |tup xs=>
  cases v with
  |ref r=>
   obtain⟨m,e,h⟩:=ob_ h
   induction m with
   |tdict kvs=>
    obtain⟨t,h1,h⟩:=ob_ h
    obtain⟨h2,rfl⟩:=spj h hc
    exact .t e t.2 h2
   |_=>exact non h
  |_=>exact non h
 |_=>exact non h
noncomputable def diN(σ:Sg)(v:V):Option Unit:=cV v (rf:=fun r=>ob σ[r]? fun m=>cO m (di:=fun _=>some ()) (dt:=fun _=>some ())) (gd:=fun _=>some ())
theorem diN_{σ:Sg}{v:V}{u:Unit}(h:diN σ v=some u):DicR σ v:=by
 cases v with
 |ref r=>
  obtain⟨m,e,h⟩:=ob_ h
  induction m with
  |idict ys=>exact .i (.i e)
  |tdict ys=>exact .t e
  |_=>exact non h
 |gd t=>exact .i (.g t)
 |_=>exact non h
noncomputable def setN(σ:Sg)(a k v:V):Option (Bool × Sg):=ob (rfN a) fun r=>ob σ[r]? fun m=>cO m
 (ls:=fun xs=>ob (nat k) fun j=>some (Nat.blt j xs.length,σ.set r (.list (xs.set j v))))
 (di:=fun kvs=>ob (inV k) fun k=>some (Nat.blt kvs.length LIM,σ.set r (.idict (storedA kvs k v))))
 (ds:=fun kvs=>ob (stV k) fun k=>some (Nat.blt kvs.length LIM,σ.set r (.sdict (storedA kvs k v))))
 (dt:=fun kvs=>ob (tkA k) fun t=>some (noKey t.1 kvs&&Nat.blt kvs.length 100,σ.set r (.tdict (kvs++[(k,v)]))))
theorem setN_{σ σ':Sg}{a k v:V}{c:Bool}(h:setN σ a k v=some (c,σ'))(hc:c=true):SetR σ a k v σ':=by
 obtain⟨r,h1,h⟩:=ob_ h
 obtain⟨m,e,h⟩:=ob_ h
 obtain rfl:=rfN_ h1
 induction m with
 |list xs=>
  obtain⟨j,h2,h⟩:=ob_ h
  obtain⟨h3,rfl⟩:=spj h hc
  rw[nat_ h2]
  exact .ls e (Qs.mp h3)
 |idict kvs=>
  obtain⟨j,h2,h⟩:=ob_ h
  obtain⟨h3,rfl⟩:=spj h hc
  rw[inV_ h2]
  exact .i e (Qs.mp h3)
 |sdict kvs=>
  obtain⟨j,h2,h⟩:=ob_ h
  obtain⟨h3,rfl⟩:=spj h hc
  rw[stV_ h2]
  exact .s e (Qs.mp h3)
 |tdict kvs=>
  obtain⟨t,h2,h⟩:=ob_ h
  obtain⟨h3,rfl⟩:=spj h hc
  obtain⟨h4,h5⟩:=band h3
  exact .t e t.2 h4 (Qs.mp h5)
 |_=>exact non h
noncomputable def apN(σ:Sg)(a v:V):Option (Bool × Sg):=ob (rfN a) fun r=>ob σ[r]? fun m=>cO m (ls:=fun xs=>some (Nat.blt xs.length LIM,σ.set r (.list (xs++[v]))))
inductive ApR(σ:Sg)(a v:V):Sg→Prop
 |mk (r xs):a=.ref r→σ[r]?=some (.list xs)→xs.length < LIM→ApR σ a v (σ.set r (.list (xs++[v])))
theorem apN_{σ σ':Sg}{a v:V}{c:Bool}(h:apN σ a v=some (c,σ'))(hc:c=true):ApR σ a v σ':=by
 obtain⟨r,h1,h⟩:=ob_ h
 obtain⟨m,e,h⟩:=ob_ h
 induction m with
 |list xs=>obtain⟨h2,rfl⟩:=spj h hc;exact .mk r xs (rfN_ h1) e (Qs.mp h2)
 |_=>exact non h
noncomputable def poN(σ:Sg)(a:V):Option (Bool × Sg):=ob (rfN a) fun r=>ob σ[r]? fun m=>cO m (ls:=fun xs=>some (Nat.blt 0 xs.length,σ.set r (.list xs.dropLast)))
inductive PoR(σ:Sg)(a:V):Sg→Prop
 |mk (r xs):a=.ref r→σ[r]?=some (.list xs)→0 < xs.length→PoR σ a (σ.set r (.list xs.dropLast))
theorem poN_{σ σ':Sg}{a:V}{c:Bool}(h:poN σ a=some (c,σ'))(hc:c=true):PoR σ a σ':=by
 obtain⟨r,h1,h⟩:=ob_ h
 obtain⟨m,e,h⟩:=ob_ h
 induction m with
 |list xs=>obtain⟨h2,rfl⟩:=spj h hc;exact .mk r xs (rfN_ h1) e (Qs.mp h2)
 |_=>exact non h
noncomputable def Ask{α:Type}(m:Nat)(x:Option α)(R:α→Prop)(k:α→Nat→Prop):Prop:=@Bool.rec (fun _=>Prop) (@Option.rec α (fun _=>Prop) (m=m) (fun a=>k a (m / 2)) x) (∀a,R a→k a (m / 2)) (Nat.beq (m % 2) 1)
theorem Ask.mk{α:Type}{m:Nat}{x:Option α}{R:α→Prop}{k:α→Nat→Prop}(h:∀{a},x=some a→R a)(g:∀a m,R a→k a m):Ask m x R k:=by
 unfold Ask
 cases Nat.beq (m % 2) 1 with
 |true=>exact fun a r=>g a _ r
 |false=>
  induction x with
  |none=>exact rfl
  |some a=>exact g a _ (h rfl)
noncomputable def Cnd(m:Nat)(c:Bool)(k:Nat→Prop):Prop:=@Bool.rec (fun _=>Prop) (@Bool.rec (fun _=>Prop) (m=m) (k (m / 2)) c) (c=true→k (m / 2)) (Nat.beq (m % 2) 1)
theorem Cnd.mk{m:Nat}{c:Bool}{k:Nat→Prop}(h:c=true→∀m,k m):Cnd m c k:=by
 unfold Cnd
 cases Nat.beq (m % 2) 1 with
 |true=>exact fun e=>h e _
 |false=>
  induction c with
  |true=>exact h rfl _
  |false=>exact rfl
noncomputable def AskC{α:Type}(m:Nat)(x:Option (Bool × α))(R:α→Prop)(k:α→Nat→Prop):Prop:=@Bool.rec (fun _=>Prop) (@Option.rec (Bool × α) (fun _=>Prop) (m=m) (fun p=>Cnd (m / 2) p.1 fun m=>k p.2 m) x) (∀a,R a→k a (m / 2)) (Nat.beq (m % 2) 1)
theorem AskC.mk{α:Type}{m:Nat}{x:Option (Bool × α)}{R:α→Prop}{k:α→Nat→Prop}(h:∀{c a},x=some (c,a)→c=true→R a)(g:∀a m,R a→k a m):AskC m x R k:=by
 unfold AskC
 cases Nat.beq (m % 2) 1 with
 |true=>exact fun a r=>g a _ r
 |false=>
  induction x with
  |none=>exact rfl
  |some a=>exact Cnd.mk fun e m=>g a.2 m (h rfl e)
noncomputable def Br(m:Nat)(t:Bool)(a b:Nat→Prop):Prop:=@Bool.rec (fun _=>Prop) (@Bool.rec (fun _=>Prop) (b (m / 2)) (a (m / 2)) t) (∀c,t=c→@Bool.rec (fun _=>Prop) (b (m / 2)) (a (m / 2)) c) (Nat.beq (m % 2) 1)
theorem Br.mk{m:Nat}{t:Bool}{a b:Nat→Prop}(h1:t=true→∀m,a m)(h2:t=false→∀m,b m):Br m t a b:=by
 have main:∀c,t=c→@Bool.rec (fun _=>Prop) (b (m / 2)) (a (m / 2)) c:=fun c e=>by
  induction c with
  |true=>exact h1 e _
  |false=>exact h2 e _
 unfold Br
 cases Nat.beq (m % 2) 1 with
 |true=>exact main
 |false=>exact main t rfl
noncomputable abbrev KE:=V→Rho→Sg→Nat→Prop
noncomputable abbrev NE:=Rho→Sg→Nat→KE→Prop
noncomputable abbrev NT:=Rho→Sg→Nat→(Bool→Rho→Sg→Nat→Prop)→Prop
noncomputable abbrev NL:=Rho→Sg→Nat→(List V→Rho→Sg→Nat→Prop)→Prop
structure N1 where
 e:NE
 t:NT
structure N2 where
 l:NL
 v:Bool→NE
 u:Bool→NT
noncomputable abbrev LvC(o:Option Lv)(p:V→Prop)(q:List V→Prop):Prop:=@Option.rec Lv (fun _=>Prop) True (fun l=>@Lv.rec (fun _=>Prop) p q l) o
noncomputable def pT(f:NE):N1:=⟨f,fun ρ σ m P=>f ρ σ m fun v ρ σ m=>Ask m (truN v) (TruR v) fun w m=>P w ρ σ m⟩
section
variable (X:Wd)(D:Nat)
noncomputable def m0:N1:=pT fun _ _ _ _=>True
noncomputable def mC(v:V):N1:=pT fun ρ σ m P=>P v ρ σ m
noncomputable def mVar(i:Nat):N1:=pT fun ρ σ m P=>LvC (ρ.get i) (fun x=>P x ρ σ m) fun xs=>P (.flist xs) (ρ.put i (.v (.flist xs))) σ m
noncomputable def mL(f:List V→V)(l:N2):N1:=pT fun ρ σ m P=>l.l ρ σ m fun vs ρ σ m=>P (f vs) ρ σ m
noncomputable def mNew(f:List V→MObj)(l:NL):N1:=pT fun ρ σ m P=>l ρ σ m fun vs ρ σ m=>P (.ref σ.length) ρ (σ++[f vs]) m
noncomputable def mNewd(ks:List Nat)(es:Es)(l:N2):N1:=pT fun ρ σ m P=>@Bool.rec (fun _=>Prop) True (l.l ρ σ m fun vs ρ σ m=>P (.ref σ.length) ρ (σ++[.sdict (ks.zip vs)]) m) (Nat.beq ks.length es.len)
noncomputable def m2(f:Sg→V→V→Option V)(R:Sg→V→V→V→Prop)(a b:N1):N1:=pT fun ρ σ m P=>a.e ρ σ m fun v ρ σ m=>b.e ρ σ m fun u ρ σ m=>Ask m (f σ v u) (R σ v u) fun w m=>P w ρ σ m
noncomputable def m2c(f:Sg→V→V→Option (Bool × V))(R:Sg→V→V→V→Prop)(a b:N1):N1:=pT fun ρ σ m P=>a.e ρ σ m fun v ρ σ m=>b.e ρ σ m fun u ρ σ m=>AskC m (f σ v u) (R σ v u) fun w m=>P w ρ σ m
noncomputable def m3(f:Sg→V→V→V→Option (Bool × V))(R:Sg→V→V→V→V→Prop)(a b c:N1):N1:=pT fun ρ σ m P=>a.e ρ σ m fun v ρ σ m=>b.e ρ σ m fun u ρ σ m=>c.e ρ σ m fun z ρ σ m=>AskC m (f σ v u z) (R σ v u z) fun w m=>P w ρ σ m
noncomputable def mGet(a b c:N1):N1:=pT fun ρ σ m P=>a.e ρ σ m fun v ρ σ m=>Ask m (diN σ v) (fun _=>DicR σ v) fun _ m=>b.e ρ σ m fun u ρ σ m=>c.e ρ σ m fun z ρ σ m=>AskC m (getN σ v u z) (GetR σ v u z) fun w m=>P w ρ σ m
noncomputable def mAt(a:N1)(n:Nat):N1:=pT fun ρ σ m P=>a.e ρ σ m fun v ρ σ m=>Ask m (atN σ v n) (AtR σ v n) fun w m=>P w ρ σ m
noncomputable def mCmp(o:Cop)(a b:N1):N1:=⟨fun ρ σ m P=>a.e ρ σ m fun v ρ σ m=>b.e ρ σ m fun u ρ σ m=>Ask m (cmpN σ o v u) (CmpR σ o v u) fun w m=>P (.bool w) ρ σ m,fun ρ σ m P=>a.e ρ σ m fun v ρ σ m=>b.e ρ σ m fun u ρ σ m=>Ask m (cmpN σ o v u) (CmpR σ o v u) fun w m=>P w ρ σ m⟩
noncomputable def mBop(t:Bool)(l:N2):N1:=⟨l.v t,l.u t⟩
noncomputable def mNot(a:N1):N1:=⟨fun ρ σ m P=>a.e ρ σ m fun v ρ σ m=>Ask m (truN v) (TruR v) fun w m=>P (.bool !w) ρ σ m,fun ρ σ m P=>a.t ρ σ m fun w ρ σ m=>P (!w) ρ σ m⟩
noncomputable def mIte(c a b:N1):N1:=⟨fun ρ σ m P=>c.t ρ σ m fun w ρ σ m=>Br m w (fun m=>a.e ρ σ m P) fun m=>b.e ρ σ m P,fun ρ σ m P=>c.t ρ σ m fun w ρ σ m=>Br m w (fun m=>a.t ρ σ m P) fun m=>b.t ρ σ m P⟩
noncomputable def mCall(f:Nat)(l:N2):N1:=pT fun ρ σ m P=>l.l ρ σ m fun vs ρ σ m=>∀v σ',Runs X D f vs σ (v,σ')→P v ρ σ' m
noncomputable def mCallL(f:Nat)(l:N2)(x:Nat):N1:=pT fun ρ σ m P=>l.l ρ σ m fun vs ρ σ m=>LvC (ρ.get x) (fun _=>True) fun ys=>∀v o σ',RunsL X D f vs ys σ (v,o,σ')→P v (outRho ρ x o) σ' m
noncomputable def mCallF(f x:Nat)(l:N2):N1:=pT fun ρ σ m P=>LvC (ρ.get x) (fun _=>True) fun _=>l.l ρ σ m fun vs ρ σ m=>LvC (ρ.get x) (fun _=>True) fun ys=>∀v σ',Runs X D f (.flist ys::vs) σ (v,σ')→P v (ρ.put x (.v (.flist ys))) σ' m
noncomputable def mBlt(f:Blt)(a:N1):N1:=pT fun ρ σ m P=>a.e ρ σ m fun v ρ σ m=>Ask m (bltN σ f v) (BltR σ f v) fun w m=>P w ρ σ m
noncomputable def mNewC(k f:Nat)(l:N2):N1:=pT fun ρ σ m P=>l.l ρ σ m fun vs ρ σ m=>∀σ',Runs X D f (.ref (σ.length+1)::vs) (σ++[.adict [],.inst k σ.length]) (.none,σ')→P (.ref (σ.length+1)) ρ σ' m
inductive MeR(σ:Sg)(v:V)(n f:Nat):Prop
 |mk (i:Ins):InsR σ v i.c i.d i.kvs→lookA i.kvs n=none→methTab i.c n=some f→MeR σ v n f
noncomputable def mMeth(f:Nat)(a:N1)(n:Nat)(l:N2):N1:=pT fun ρ σ m P=>a.e ρ σ m fun v ρ σ m=>MeR σ v n f→l.l ρ σ m fun vs ρ σ m=>∀w σ',Runs X D f (v::vs) σ (w,σ')→P w ρ σ' m
noncomputable def mCF(a:N1):N1:=pT fun ρ σ m P=>a.e ρ σ m fun v ρ σ m=>∀xs zs,v=.tup xs→FilR xs zs→P (.flist zs) ρ σ m
noncomputable def mCS(a:N1):N1:=pT fun ρ σ m P=>a.e ρ σ m fun v ρ σ m=>∀xs zs b,SeqR σ v b xs→F2 (fun x y=>SubR σ x (.int 0) y) xs zs→P (.flist zs) ρ σ m
noncomputable def mNil:N2:=⟨fun ρ σ m P=>P [] ρ σ m,fun _ _ _ _ _=>True,fun b ρ σ m P=>P b ρ σ m⟩
noncomputable def mCons(a:N1)(es:Es)(l:N2):N2:=
 ⟨fun ρ σ m P=>a.e ρ σ m fun v ρ σ m=>l.l ρ σ m fun vs ρ σ m=>P (v::vs) ρ σ m,
  fun b ρ σ m P=>@Es.casesOn (fun _=>Prop) es (a.e ρ σ m P) fun _ _=>a.e ρ σ m fun v ρ σ m=>Ask m (truN v) (TruR v) fun w m=>@Bool.rec (fun _=>Prop) (Br m w (fun m=>P v ρ σ m) fun m=>l.v b ρ σ m P) (Br m w (fun m=>l.v b ρ σ m P) fun m=>P v ρ σ m) b,
  fun b ρ σ m P=>a.t ρ σ m fun w ρ σ m=>@Bool.rec (fun _=>Prop) (Br m w (fun m=>P true ρ σ m) fun m=>l.u b ρ σ m P) (Br m w (fun m=>l.u b ρ σ m P) fun m=>P false ρ σ m) b⟩
end
section
variable (X:Wd)(D:Nat)
noncomputable def nE:E→N1:=@E.rec (fun _=>N1) (fun _=>N2) m0 (mC .none) (fun b=>mC (.bool b)) (fun i=>⟨(mC (.int i)).e,m0.t⟩) (fun n=>mC (.str n)) (mC (.tup [.int 1,.int 1,.int 1])) (fun t=>mC (.gd t)) mVar
 (fun _ l=>mL .tup l) (fun _ l=>mL .flist l) (fun _ l=>mNew .list l.l) (mNew (fun _=>.idict []) mNil.l) (mNew (fun _=>.tdict []) mNil.l) (fun ks es l=>mNewd ks es l)
 (fun _ _ a b=>m2 subN SubR a b) (fun _ _ a b=>m2c (fun _=>upN) (fun _=>UpR) a b) (fun _ _ a b=>m2c (fun _=>frN) (fun _=>FrR) a b) (fun _ _ _ a b c=>m3 miN MiR a b c) (fun _ n a=>mAt a n)
 (fun o _ _ a b=>m2c (fun _=>binN o) (fun _=>BinR o) a b) (fun o _ _ a b=>mCmp o a b) (fun t _ l=>mBop t l) (fun _ a=>mNot a) (fun _ _ _ c a b=>mIte c a b)
 (fun f _ l=>mCall X D f l) (fun f _ x l=>mCallL X D f l x) (fun f x _ l=>mCallF X D f x l) (fun f _ a=>mBlt f a) (fun _ _ _ a k d=>mGet a k d) (fun k f _ l=>mNewC X D k f l) (fun f _ n _ a l=>mMeth X D f a n l)
 (fun _ _ a=>mCF a) (fun _ _ a=>mCS a) mNil (fun _ es a l=>mCons a es l)
noncomputable def nL:Es→N2:=@Es.rec (fun _=>N1) (fun _=>N2) m0 (mC .none) (fun b=>mC (.bool b)) (fun i=>⟨(mC (.int i)).e,m0.t⟩) (fun n=>mC (.str n)) (mC (.tup [.int 1,.int 1,.int 1])) (fun t=>mC (.gd t)) mVar
 (fun _ l=>mL .tup l) (fun _ l=>mL .flist l) (fun _ l=>mNew .list l.l) (mNew (fun _=>.idict []) mNil.l) (mNew (fun _=>.tdict []) mNil.l) (fun ks es l=>mNewd ks es l)
 (fun _ _ a b=>m2 subN SubR a b) (fun _ _ a b=>m2c (fun _=>upN) (fun _=>UpR) a b) (fun _ _ a b=>m2c (fun _=>frN) (fun _=>FrR) a b) (fun _ _ _ a b c=>m3 miN MiR a b c) (fun _ n a=>mAt a n)
 (fun o _ _ a b=>m2c (fun _=>binN o) (fun _=>BinR o) a b) (fun o _ _ a b=>mCmp o a b) (fun t _ l=>mBop t l) (fun _ a=>mNot a) (fun _ _ _ c a b=>mIte c a b)
 (fun f _ l=>mCall X D f l) (fun f _ x l=>mCallL X D f l x) (fun f x _ l=>mCallF X D f x l) (fun f _ a=>mBlt f a) (fun _ _ _ a k d=>mGet a k d) (fun k f _ l=>mNewC X D k f l) (fun f _ n _ a l=>mMeth X D f a n l)
 (fun _ _ a=>mCF a) (fun _ _ a=>mCS a) mNil (fun _ es a l=>mCons a es l)
noncomputable def SEe(f:NE)(e:E):Prop:=∀ρ σ m P,(∀v ρ' σ' m',OkE X D e ρ σ (v,ρ',σ')→P v ρ' σ' m')→f ρ σ m P
noncomputable def SEt(f:NT)(e:E):Prop:=∀ρ σ m P,(∀v ρ' σ' m',OkT X D e ρ σ (v,ρ',σ')→P v ρ' σ' m')→f ρ σ m P
structure SE(n:N1)(x:E):Prop where
 e:SEe X D n.e x
 t:SEt X D n.t x
structure OkA(es:Es)(ρ:Rho)(σ:Sg)(r:List V × Rho × Sg):Prop where
 l:OkL X D es ρ σ r
 m:∀x ys,r.2.1.get x=some (.o ys)→OkM X D es x ρ σ r
 p:∀ks:List Nat,ks.length=es.len→OkP X D ks es ρ σ r
structure SL(n:N2)(es:Es):Prop where
 l:∀ρ σ m P,(∀v ρ' σ' m',OkA X D es ρ σ (v,ρ',σ')→P v ρ' σ' m')→n.l ρ σ m P
 v:∀b ρ σ m P,(∀v ρ' σ' m',OkV X D b es ρ σ (v,ρ',σ')→P v ρ' σ' m')→n.v b ρ σ m P
 u:∀b ρ σ m P,(∀v ρ' σ' m',OkU X D b es ρ σ (v,ρ',σ')→P v ρ' σ' m')→n.u b ρ σ m P
end
section
variable {X:Wd}{D:Nat}{e a b c:E}{es:Es}{na nb nc:N1}{nl:N2}
noncomputable abbrev Pl(e:E):Prop:=∀c x,okE c e x=true→pl x=true
theorem sT{f:NE}(he:SEe X D f e)(hp:Pl e):SE X D (pT f) e:=⟨he,fun ρ σ m P k=>he ρ σ m _ fun v ρ' σ' m' h=>Ask.mk truN_ fun w m q=>k w _ _ m (t_pl h q hp)⟩
theorem pl_nam{x:Expr}{f:Str→Bool}(h:nam x f=true):pl x=true:=by obtain⟨n,p,rfl,_⟩:=nam_ h;rfl
theorem pl_cst{x:Expr}{f:Const→Bool}(h:cst x f=true):pl x=true:=by obtain⟨c,k,p,rfl,_⟩:=cst_ h;rfl
theorem pl_call{x:Expr}{f:Str→List Expr→Bool}(h:callN x f=true):pl x=true:=by obtain⟨_,_,_,_,rfl,_⟩:=callN_ h;rfl
theorem pl_meth{x:Expr}{m:Str}{f:Expr→List Expr→Bool}(h:methN x m f=true):pl x=true:=by obtain⟨_,_,_,_,rfl,_⟩:=methN_ h;rfl
theorem pl_lcomp{x:Expr}{f:Expr→Str→Expr→List Expr→Scope→Pos→Bool}(h:lcomp x f=true):pl x=true:=by obtain⟨_,_,_,_,_,_,_,rfl,_⟩:=lcomp_ h;rfl
theorem s_m0:SE X D m0 e:=⟨fun _ _ _ _ _=>trivial,fun _ _ _ _ _=>trivial⟩
theorem s_mC{v:V}(h:∀{ρ σ},OkE X D e ρ σ (v,ρ,σ)):SEe X D (mC v).e e:=fun ρ σ m P k=>k v ρ σ m h
theorem s_mVar{i:Nat}:SE X D (mVar i) (.var i):=sT (fun ρ σ m P k=>by
 show LvC _ _ _
 cases h:ρ.get i with
 |none=>trivial
 |some l=>
  induction l with
  |v x=>exact k x ρ σ m (r_var h)
  |o xs=>exact k _ _ σ m (r_varO h)) fun _ _ h=>pl_nam h
theorem s_mL{f:List V→V}(hl:SL X D nl es)(h:∀{ρ σ vs ρ' σ'},OkL X D es ρ σ (vs,ρ',σ')→OkE X D e ρ σ (f vs,ρ',σ'))(hp:Pl e):SE X D (mL f nl) e:=sT (fun ρ σ m P k=>hl.l ρ σ m _ fun vs ρ' σ' m' q=>k _ _ _ m' (h q.l)) hp
theorem s_mNew{f:List V→MObj}{n:NL}(hl:∀ρ σ m P,(∀v ρ' σ' m',OkA X D es ρ σ (v,ρ',σ')→P v ρ' σ' m')→n ρ σ m P)(h:∀{ρ σ vs ρ' σ'},OkA X D es ρ σ (vs,ρ',σ')→OkE X D e ρ σ (.ref σ'.length,ρ',σ'++[f vs]))(hp:Pl e):SE X D (mNew f n) e:=sT (fun ρ σ m P k=>hl ρ σ m _ fun vs ρ' σ' m' q=>k _ _ _ m' (h q)) hp
theorem s_m2{f:Sg→V→V→Option V}{R:Sg→V→V→V→Prop}(ha:SE X D na a)(hb:SE X D nb b)(hf:∀{σ v u w},f σ v u=some w→R σ v u w)(h:∀{ρ ρ₁ ρ₂:Rho}{σ σ₁ σ₂:Sg}{v u w:V},OkE X D a ρ σ (v,ρ₁,σ₁)→OkE X D b ρ₁ σ₁ (u,ρ₂,σ₂)→R σ₂ v u w→OkE X D e ρ σ (w,ρ₂,σ₂))(hp:Pl e):SE X D (m2 f R na nb) e:=
 sT (fun ρ σ m P k=>ha.e ρ σ m _ fun v ρ₁ σ₁ m₁ h1=>hb.e ρ₁ σ₁ m₁ _ fun u ρ₂ σ₂ m₂ h2=>Ask.mk hf fun w m r=>k w _ _ m (h h1 h2 r)) hp
theorem s_m2c{f:Sg→V→V→Option (Bool × V)}{R:Sg→V→V→V→Prop}(ha:SE X D na a)(hb:SE X D nb b)(hf:∀{σ v u w c},f σ v u=some (c,w)→c=true→R σ v u w)(h:∀{ρ ρ₁ ρ₂:Rho}{σ σ₁ σ₂:Sg}{v u w:V},OkE X D a ρ σ (v,ρ₁,σ₁)→OkE X D b ρ₁ σ₁ (u,ρ₂,σ₂)→R σ₂ v u w→OkE X D e ρ σ (w,ρ₂,σ₂))(hp:Pl e):SE X D (m2c f R na nb) e:=
 sT (fun ρ σ m P k=>ha.e ρ σ m _ fun v ρ₁ σ₁ m₁ h1=>hb.e ρ₁ σ₁ m₁ _ fun u ρ₂ σ₂ m₂ h2=>AskC.mk hf fun w m r=>k w _ _ m (h h1 h2 r)) hp
theorem s_m3{f:Sg→V→V→V→Option (Bool × V)}{R:Sg→V→V→V→V→Prop}(ha:SE X D na a)(hb:SE X D nb b)(hc:SE X D nc c)(hf:∀{σ v u z w c},f σ v u z=some (c,w)→c=true→R σ v u z w)(h:∀{ρ ρ₁ ρ₂ ρ₃:Rho}{σ σ₁ σ₂ σ₃:Sg}{v u z w:V},OkE X D a ρ σ (v,ρ₁,σ₁)→OkE X D b ρ₁ σ₁ (u,ρ₂,σ₂)→OkE X D c ρ₂ σ₂ (z,ρ₃,σ₃)→R σ₃ v u z w→OkE X D e ρ σ (w,ρ₃,σ₃))(hp:Pl e):SE X D (m3 f R na nb nc) e:=
 sT (fun ρ σ m P k=>ha.e ρ σ m _ fun v ρ₁ σ₁ m₁ h1=>hb.e ρ₁ σ₁ m₁ _ fun u ρ₂ σ₂ m₂ h2=>hc.e ρ₂ σ₂ m₂ _ fun z ρ₃ σ₃ m₃ h3=>AskC.mk hf fun w m r=>k w _ _ m (h h1 h2 h3 r)) hp
theorem s_mGet(ha:SE X D na a)(hb:SE X D nb b)(hc:SE X D nc c):SE X D (mGet na nb nc) (.get a b c):=
 sT (fun ρ σ m P k=>ha.e ρ σ m _ fun v ρ₁ σ₁ m₁ h1=>Ask.mk diN_ fun _ m₁ d=>hb.e ρ₁ σ₁ m₁ _ fun u ρ₂ σ₂ m₂ h2=>hc.e ρ₂ σ₂ m₂ _ fun z ρ₃ σ₃ m₃ h3=>AskC.mk getN_ fun w m r=>k w _ _ m (r_get h1 d h2 h3 r)) fun _ _ h=>pl_meth h
theorem s_mAt{n:Nat}(ha:SE X D na a):SE X D (mAt na n) (.attr a n):=sT (fun ρ σ m P k=>ha.e ρ σ m _ fun v ρ₁ σ₁ m₁ h1=>Ask.mk atN_ fun w m r=>k w _ _ m (r.rec fun _ h e=>r_attr h1 h e)) fun _ _ h=>pl_tag h rfl
theorem s_mCmp{o:Cop}(ha:SE X D na a)(hb:SE X D nb b):SE X D (mCmp o na nb) (.cmp o a b):=
 ⟨fun ρ σ m P k=>ha.e ρ σ m _ fun v ρ₁ σ₁ m₁ h1=>hb.e ρ₁ σ₁ m₁ _ fun u ρ₂ σ₂ m₂ h2=>Ask.mk cmpN_ fun w m r=>k _ _ _ m (r_cmp h1 h2 r),fun ρ σ m P k=>ha.e ρ σ m _ fun v ρ₁ σ₁ m₁ h1=>hb.e ρ₁ σ₁ m₁ _ fun u ρ₂ σ₂ m₂ h2=>Ask.mk cmpN_ fun w m r=>k _ _ _ m (t_cmp h1 h2 r)⟩
theorem s_mBop{t:Bool}(hl:SL X D nl es):SE X D (mBop t nl) (.bop t es):=⟨fun ρ σ m P k=>hl.v t ρ σ m _ fun v ρ' σ' m' h=>k _ _ _ m' (r_bop h),fun ρ σ m P k=>hl.u t ρ σ m _ fun v ρ' σ' m' h=>k _ _ _ m' (t_bop h)⟩
theorem s_mNot(ha:SE X D na a):SE X D (mNot na) (.not a):=⟨fun ρ σ m P k=>ha.e ρ σ m _ fun v ρ' σ' m' h=>Ask.mk truN_ fun w m q=>k _ _ _ m (r_not h q),fun ρ σ m P k=>ha.t ρ σ m _ fun v ρ' σ' m' h=>k _ _ _ m' (t_not h)⟩
theorem s_mIte(hc:SE X D nc c)(ha:SE X D na a)(hb:SE X D nb b):SE X D (mIte nc na nb) (.ite c a b):=
 ⟨fun ρ σ m P k=>hc.t ρ σ m _ fun w ρ₁ σ₁ m₁ h=>Br.mk (fun e m=>ha.e ρ₁ σ₁ m _ fun v ρ' σ' m' h'=>k _ _ _ m' (r_ite (w:=true) (e▸h) h')) fun e m=>hb.e ρ₁ σ₁ m _ fun v ρ' σ' m' h'=>k _ _ _ m' (r_ite (w:=false) (e▸h) h'),
  fun ρ σ m P k=>hc.t ρ σ m _ fun w ρ₁ σ₁ m₁ h=>Br.mk (fun e m=>ha.t ρ₁ σ₁ m _ fun v ρ' σ' m' h'=>k _ _ _ m' (t_ite (w:=true) (e▸h) h')) fun e m=>hb.t ρ₁ σ₁ m _ fun v ρ' σ' m' h'=>k _ _ _ m' (t_ite (w:=false) (e▸h) h')⟩
theorem s_mCall{f:Nat}(hl:SL X D nl es):SE X D (mCall X D f nl) (.call f es):=sT (fun ρ σ m P k=>hl.l ρ σ m _ fun vs ρ₁ σ₁ m₁ h v σ' r=>k _ _ _ m₁ (r_call h.l r)) fun _ _ h=>pl_call h
theorem s_mCallL{f x:Nat}(hl:SL X D nl es):SE X D (mCallL X D f nl x) (.callL f es x):=sT (fun ρ σ m P k=>hl.l ρ σ m _ fun vs ρ₁ σ₁ m₁ h=>by
 cases e:ρ₁.get x with
 |none=>trivial
 |some l=>
  induction l with
  |v _=>trivial
  |o ys=>exact fun v o σ' r=>k _ _ _ m₁ (r_callL (h.m x ys e) e r)) fun _ _ h=>pl_call h
theorem s_mCallF{f x:Nat}(hl:SL X D nl es):SE X D (mCallF X D f x nl) (.callF f x es):=sT (fun ρ σ m P k=>by
 show LvC _ _ _
 cases e0:ρ.get x with
 |none=>trivial
 |some l=>
  induction l with
  |v _=>trivial
  |o xs=>
   refine hl.l ρ σ m _ fun vs ρ₁ σ₁ m₁ h=>?_
   cases e:ρ₁.get x with
   |none=>trivial
   |some l=>
    induction l with
    |v _=>trivial
    |o ys=>exact fun v σ' r=>k _ _ _ m₁ (r_callF e0 h.l e r)) fun _ _ h=>pl_call h
theorem s_mBlt{f:Blt}(ha:SE X D na a):SE X D (mBlt f na) (.blt f a):=sT (fun ρ σ m P k=>ha.e ρ σ m _ fun v ρ₁ σ₁ m₁ h1=>Ask.mk bltN_ fun w m r=>k w _ _ m (r_blt h1 r)) fun _ _ h=>pl_call h
theorem s_mNewC{c f:Nat}(hl:SL X D nl es):SE X D (mNewC X D c f nl) (.new c f es):=sT (fun ρ σ m P k=>hl.l ρ σ m _ fun vs ρ₁ σ₁ m₁ h σ' r=>k _ _ _ m₁ (r_new h.l r)) fun _ _ h=>pl_call h
theorem s_mMeth{f n:Nat}(ha:SE X D na a)(hl:SL X D nl es):SE X D (mMeth X D f na n nl) (.meth f a n es):=sT (fun ρ σ m P k=>ha.e ρ σ m _ fun v ρ₁ σ₁ m₁ h1 i=>hl.l ρ₁ σ₁ m₁ _ fun vs ρ₂ σ₂ m₂ h w σ' r=>k _ _ _ m₂ (i.rec fun _ q1 q2 q3=>r_meth h1 q1 q2 q3 h.l r)) fun _ _ h=>pl_meth h
theorem s_mCF{x:Nat}(ha:SE X D na a):SE X D (mCF na) (.compF x a):=sT (fun ρ σ m P k=>ha.e ρ σ m _ fun v ρ₁ σ₁ m₁ h1 xs zs e h=>k _ _ _ m₁ (r_compF (e▸h1) h)) fun _ _ h=>pl_lcomp h
theorem s_mCS{x:Nat}(ha:SE X D na a):SE X D (mCS na) (.compS x a):=sT (fun ρ σ m P k=>ha.e ρ σ m _ fun v ρ₁ σ₁ m₁ h1 xs zs b hs h=>k _ _ _ m₁ (r_compS h1 hs h)) fun _ _ h=>pl_lcomp h
theorem s_nil:SL X D mNil .nil:=⟨fun ρ σ m P k=>k _ _ _ m ⟨l_nil,fun x ys e=>m_nil e,fun ks e=>by obtain rfl:=List.length_eq_zero_iff.mp e;exact p_nil⟩,fun _ _ _ _ _ _=>trivial,fun b ρ σ m P k=>k _ _ _ m u_nil⟩
end
section
variable {X:Wd}{D:Nat}{e a b c:E}{es:Es}{na nb nc:N1}{nl:N2}
theorem s_consv(ha:SE X D na a)(hl:SL X D nl es):∀b ρ σ m P,(∀v ρ' σ' m',OkV X D b (.cons a es) ρ σ (v,ρ',σ')→P v ρ' σ' m')→(mCons na es nl).v b ρ σ m P:=by
 intro b ρ σ m P k
 cases es with
 |nil=>exact ha.e ρ σ m _ fun v ρ₁ σ₁ m₁ h=>k _ _ _ m₁ (v_one h)
 |cons e' es'=>
  refine ha.e ρ σ m _ fun v ρ₁ σ₁ m₁ h=>Ask.mk truN_ fun w m q=>?_
  have stop:w≠b→∀m,P v ρ₁ σ₁ m:=fun n m=>k _ _ _ m (v_cons h q (fun e=>(n e).elim) fun _=>rfl)
  have go:w=b→∀m,nl.v b ρ₁ σ₁ m P:=fun e m=>hl.v b ρ₁ σ₁ m _ fun u ρ₂ σ₂ m₂ h2=>k _ _ _ m₂ (v_cons h q (fun _=>h2) fun n=>(n e).elim)
  induction b with
  |true=>exact Br.mk go fun e=>stop fun q=>Bool.noConfusion (e.symm.trans q)
  |false=>exact Br.mk (fun e=>stop fun q=>Bool.noConfusion (e.symm.trans q)) go
theorem s_consu(ha:SE X D na a)(hl:SL X D nl es):∀b ρ σ m P,(∀v ρ' σ' m',OkU X D b (.cons a es) ρ σ (v,ρ',σ')→P v ρ' σ' m')→(mCons na es nl).u b ρ σ m P:=by
 intro b ρ σ m P k
 refine ha.t ρ σ m _ fun w ρ₁ σ₁ m₁ h=>?_
 have stop:w≠b→∀m,P w ρ₁ σ₁ m:=fun n m=>k _ _ _ m (u_cons h (fun e=>(n e).elim) fun _=>rfl)
 have go:w=b→∀m,nl.u b ρ₁ σ₁ m P:=fun e m=>hl.u b ρ₁ σ₁ m _ fun u ρ₂ σ₂ m₂ h2=>k _ _ _ m₂ (u_cons h (fun _=>h2) fun n=>(n e).elim)
 induction b with
 |true=>exact Br.mk go fun e m=>e▸stop (fun q=>Bool.noConfusion (e.symm.trans q)) m
 |false=>exact Br.mk (fun e m=>e▸stop (fun q=>Bool.noConfusion (e.symm.trans q)) m) go
theorem s_cons(ha:SE X D na a)(hl:SL X D nl es):SL X D (mCons na es nl) (.cons a es):=
 ⟨fun ρ σ m P k=>ha.e ρ σ m _ fun v ρ₁ σ₁ m₁ h1=>hl.l ρ₁ σ₁ m₁ _ fun vs ρ₂ σ₂ m₂ h2=>k _ _ _ m₂ ⟨l_cons h1 h2.l,fun x ys e=>m_cons h1 (h2.m x ys e),fun ks e=>by
  induction ks with
  |nil=>exact nomatch e
  |cons k ks=>exact p_cons h1 (h2.p ks (Nat.succ.inj e))⟩,s_consv ha hl,s_consu ha hl⟩
theorem s_newi{f:List V→MObj}(h:∀{ρ σ},OkE X D e ρ σ (.ref σ.length,ρ,σ++[f []]))(hp:Pl e):SE X D (mNew f mNil.l) e:=sT (fun ρ σ m P k=>k _ ρ _ m h) hp
theorem s_newd{ks:List Nat}(hl:SL X D nl es):SE X D (mNewd ks es nl) (.newd ks es):=sT (fun ρ σ m P k=>by
 show @Bool.rec (fun _=>Prop) _ _ _
 cases e:Nat.beq ks.length es.len with
 |false=>trivial
 |true=>
  have e:=Qy e
  exact hl.l ρ σ m _ fun vs ρ₁ σ₁ m₁ h=>k _ _ _ m₁ (r_newd (h.p ks e) (h.l.len.trans e.symm))) fun _ _ h=>pl_tag h rfl
theorem s_e:∀e,SE X D (nE X D e) e:=@E.rec (fun e=>SE X D (nE X D e) e) (fun es=>SL X D (nL X D es) es)
  s_m0 (sT (s_mC r_none) fun _ _ h=>pl_cst h) (fun _=>sT (s_mC r_bool) fun _ _ h=>pl_cst h) (fun _=>⟨s_mC r_int,s_m0.t⟩) (fun _=>sT (s_mC r_str) fun _ _ h=>pl_cst (band h).2) (sT (s_mC r_tt) fun _ _ h=>pl_nam h) (fun _=>sT (s_mC r_gd) fun _ _ h=>pl_nam h) (fun _=>s_mVar)
  (fun _ h=>s_mL h r_tup fun _ _ h=>pl_tag h rfl) (fun _ h=>s_mL h r_lst fun _ _ h=>pl_tag h rfl) (fun _ h=>s_mNew h.l (fun q=>r_newl q.l) fun _ _ h=>pl_tag h rfl) (s_newi r_newi fun _ _ h=>pl_tag h rfl) (s_newi r_newt fun _ _ h=>pl_tag h rfl) (fun _ _ h=>s_newd h)
  (fun _ _ ha hb=>s_m2 ha hb subN_ r_sub fun _ _ h=>pl_tag h rfl) (fun _ _ ha hb=>s_m2c ha hb upN_ r_upto fun _ _ h=>pl_tag h rfl) (fun _ _ ha hb=>s_m2c ha hb frN_ r_frm fun _ _ h=>pl_tag h rfl) (fun _ _ _ ha hb hc=>s_m3 ha hb hc miN_ r_mid fun _ _ h=>pl_tag h rfl) (fun _ _ ha=>s_mAt ha)
  (fun _ _ _ ha hb=>s_m2c ha hb binN_ r_bin fun _ _ h=>pl_tag h rfl) (fun _ _ _ ha hb=>s_mCmp ha hb) (fun _ _ h=>s_mBop h) (fun _ ha=>s_mNot ha) (fun _ _ _ hc ha hb=>s_mIte hc ha hb) (fun _ _ h=>s_mCall h) (fun _ _ _ h=>s_mCallL h) (fun _ _ _ h=>s_mCallF h) (fun _ _ ha=>s_mBlt ha)
  (fun _ _ _ ha hb hc=>s_mGet ha hb hc) (fun _ _ _ h=>s_mNewC h) (fun _ _ _ _ ha h=>s_mMeth ha h) (fun _ _ ha=>s_mCF ha) (fun _ _ ha=>s_mCS ha) s_nil (fun _ _ ha h=>s_cons ha h)
theorem s_l:∀es,SL X D (nL X D es) es:=@Es.rec (fun e=>SE X D (nE X D e) e) (fun es=>SL X D (nL X D es) es)
  s_m0 (sT (s_mC r_none) fun _ _ h=>pl_cst h) (fun _=>sT (s_mC r_bool) fun _ _ h=>pl_cst h) (fun _=>⟨s_mC r_int,s_m0.t⟩) (fun _=>sT (s_mC r_str) fun _ _ h=>pl_cst (band h).2) (sT (s_mC r_tt) fun _ _ h=>pl_nam h) (fun _=>sT (s_mC r_gd) fun _ _ h=>pl_nam h) (fun _=>s_mVar)
  (fun _ h=>s_mL h r_tup fun _ _ h=>pl_tag h rfl) (fun _ h=>s_mL h r_lst fun _ _ h=>pl_tag h rfl) (fun _ h=>s_mNew h.l (fun q=>r_newl q.l) fun _ _ h=>pl_tag h rfl) (s_newi r_newi fun _ _ h=>pl_tag h rfl) (s_newi r_newt fun _ _ h=>pl_tag h rfl) (fun _ _ h=>s_newd h)
  (fun _ _ ha hb=>s_m2 ha hb subN_ r_sub fun _ _ h=>pl_tag h rfl) (fun _ _ ha hb=>s_m2c ha hb upN_ r_upto fun _ _ h=>pl_tag h rfl) (fun _ _ ha hb=>s_m2c ha hb frN_ r_frm fun _ _ h=>pl_tag h rfl) (fun _ _ _ ha hb hc=>s_m3 ha hb hc miN_ r_mid fun _ _ h=>pl_tag h rfl) (fun _ _ ha=>s_mAt ha)
  (fun _ _ _ ha hb=>s_m2c ha hb binN_ r_bin fun _ _ h=>pl_tag h rfl) (fun _ _ _ ha hb=>s_mCmp ha hb) (fun _ _ h=>s_mBop h) (fun _ ha=>s_mNot ha) (fun _ _ _ hc ha hb=>s_mIte hc ha hb) (fun _ _ h=>s_mCall h) (fun _ _ _ h=>s_mCallL h) (fun _ _ _ h=>s_mCallF h) (fun _ _ ha=>s_mBlt ha)
  (fun _ _ _ ha hb hc=>s_mGet ha hb hc) (fun _ _ _ h=>s_mNewC h) (fun _ _ _ _ ha h=>s_mMeth ha h) (fun _ _ ha=>s_mCF ha) (fun _ _ ha=>s_mCS ha) s_nil (fun _ _ ha h=>s_cons ha h)
end
noncomputable abbrev KS:=Fl→Rho→Sg→Nat→Prop
noncomputable abbrev NS:=Rho→Sg→Nat→KS→Prop
noncomputable abbrev cF(f:Fl)(a b c:Prop)(d:V→Prop):Prop:=@Fl.casesOn (fun _=>Prop) f a b c d
noncomputable def tpN(v:V):Option (List V):=cV v (tp:=some)
theorem tpN_{v:V}{xs:List V}(h:tpN v=some xs):v=.tup xs:=by
 cases v with
 |tup ys=>exact congrArg _ (sij h)
 |_=>exact non h
noncomputable def iN(v:V):Option Int:=cV v (it:=some)
theorem iN_{v:V}{i:Int}(h:iN v=some i):v=.int i:=by
 cases v with
 |int j=>exact congrArg _ (sij h)
 |_=>exact non h
noncomputable def lrN(σ:Sg)(v:V):Option Nat:=ob (rfN v) fun r=>ob (ob σ[r]? fun m=>cO m (ls:=some)) fun _=>some r
inductive LrR(σ:Sg)(v:V)(r:Nat):Prop
 |mk (xs):v=.ref r→σ[r]?=some (.list xs)→LrR σ v r
theorem lrN_{σ:Sg}{v:V}{r:Nat}(h:lrN σ v=some r):LrR σ v r:=by
 obtain⟨r',h1,h⟩:=ob_ h
 obtain⟨xs,h2,h⟩:=ob_ h
 obtain rfl:=sij h
 exact .mk xs (rfN_ h1) (ls_ h2)
section
variable (X:Wd)(D:Nat)
noncomputable abbrev vl(e:E):NE:=(nE X D e).e
noncomputable def unroll(bd:V→Rho→(Rho→Prop)→Prop)(b:NS)(P:KS)(xs:List V):Rho→Sg→Nat→Prop:=@List.rec V (fun _=>Rho→Sg→Nat→Prop) (fun ρ σ m=>P .next ρ σ m) (fun x _ ih ρ σ m=>bd x ρ fun ρ=>b ρ σ m fun f ρ σ m=>cF f (ih ρ σ m) (P .next ρ σ m) (ih ρ σ m) fun v=>P (.ret v) ρ σ m) xs
noncomputable def bd1(i:Nat)(x:V)(ρ:Rho)(k:Rho→Prop):Prop:=k (ρ.put i (.v x))
noncomputable def bd2(i j:Nat)(x:V)(ρ:Rho)(k:Rho→Prop):Prop:=@V.casesOn (fun _=>Prop) x True (fun _=>True) (fun _=>True) (fun _=>True) (fun l=>@List.casesOn V (fun _=>Prop) l True fun a l=>@List.casesOn V (fun _=>Prop) l True fun b l=>@List.casesOn V (fun _=>Prop) l (k ((ρ.put i (.v a)).put j (.v b))) fun _ _=>True) (fun _=>True) (fun _=>True) (fun _=>True)
noncomputable def nFor(bd:V→Rho→(Rho→Prop)→Prop)(B:V→Rho→Rho→Prop)(b:Ss)(nb:NS)(xs:List V)(ρ:Rho)(σ:Sg)(m:Nat)(P:KS):Prop:=@Bool.rec (fun _=>Prop) (unroll bd nb P xs ρ σ (m / 2)) (∀f ρ' σ',Rounds X D B b xs ρ σ (f,ρ',σ')→P f ρ' σ' (m / 2)) (Nat.beq (m % 2) 1)
noncomputable def q_asg(i:Nat)(e:E):NS:=fun ρ σ m P=>vl X D e ρ σ m fun v ρ σ m=>P .next (ρ.put i (.v v)) σ m
noncomputable def q_asgl(i:Nat)(es:Es):NS:=fun ρ σ m P=>(nL X D es).l ρ σ m fun vs ρ σ m=>P .next (ρ.put i (.o vs)) σ m
noncomputable def q_asgt(i:Nat)(e:E):NS:=fun ρ σ m P=>vl X D e ρ σ m fun v ρ σ m=>Ask m (tpN v) (fun xs=>v=.tup xs) fun xs m=>P .next (ρ.put i (.o xs)) σ m
noncomputable def q_unp(is:List Nat)(e:E):NS:=fun ρ σ m P=>vl X D e ρ σ m fun v ρ σ m=>Ask m (tpN v) (fun xs=>v=.tup xs) fun xs m=>@Bool.rec (fun _=>Prop) True (P .next (unp is xs ρ) σ m) (Nat.beq is.length xs.length)
noncomputable def q_seti(a k v:E):NS:=fun ρ σ m P=>vl X D v ρ σ m fun x ρ σ m=>vl X D a ρ σ m fun y ρ σ m=>vl X D k ρ σ m fun z ρ σ m=>AskC m (setN σ y z x) (SetR σ y z x) fun σ' m=>P .next ρ σ' m
noncomputable def q_setl(i:Nat)(k v:E):NS:=fun ρ σ m P=>vl X D v ρ σ m fun x ρ σ m=>LvC (ρ.get i) (fun _=>True) fun _=>vl X D k ρ σ m fun z ρ σ m=>Ask m (nat z) (fun j=>z=.int (.ofNat j)) fun j m=>LvC (ρ.get i) (fun _=>True) fun ys=>Cnd m (Nat.blt j ys.length) fun m=>P .next (ρ.put i (.o (ys.set j x))) σ m
noncomputable def q_seta(a:E)(n:Nat)(v:E):NS:=fun ρ σ m P=>vl X D v ρ σ m fun x ρ σ m=>vl X D a ρ σ m fun y ρ σ m=>AskC m (saN σ y n x) (SaR σ y n x) fun σ' m=>P .next ρ σ' m
noncomputable def q_aug(i:Nat)(e:E):NS:=fun ρ σ m P=>LvC (ρ.get i) (fun x=>Ask m (iN x) (fun a=>x=.int a) fun a m=>vl X D e ρ σ m fun y ρ σ m=>Ask m (iN y) (fun b=>y=.int b) fun b m=>P .next (ρ.put i (.v (.int (a+b)))) σ m) fun _=>True
noncomputable def q_asgC(g:Bool)(j:Nat)(cap:List Nat)(e:E)(x:Nat)(it:E):NS:=fun ρ₀ σ m P=>vl X D it ρ₀ σ m fun v ρ σ m=>∀xs ρc zs σ',@Bool.rec (fun _=>Prop) (∃k,v=.int (.ofNat k)∧k≤LIM∧xs=rng 0 k) (TupL v xs) g→CapR ρ₀ cap ρc→CapR ρ cap ρc→Elts X D false x none e ρc xs σ zs σ'→P .next (ρ.put j (.v (.flist zs))) σ' m
noncomputable def q_app(i:Nat)(e:E):NS:=fun ρ σ m P=>LvC (ρ.get i) (fun _=>True) fun _=>vl X D e ρ σ m fun v ρ σ m=>LvC (ρ.get i) (fun _=>True) fun ys=>Cnd m (Nat.blt ys.length LIM) fun m=>P .next (ρ.put i (.o (ys++[v]))) σ m
noncomputable def q_ext(i:Nat)(e:E):NS:=fun ρ σ m P=>LvC (ρ.get i) (fun _=>True) fun _=>vl X D e ρ σ m fun v ρ σ m=>Ask m (tpN v) (fun xs=>v=.tup xs) fun xs m=>LvC (ρ.get i) (fun _=>True) fun ys=>Cnd m (Nat.ble (ys.length+xs.length) LIM) fun m=>P .next (ρ.put i (.o (ys++xs))) σ m
noncomputable def q_appr(a e:E):NS:=fun ρ σ m P=>vl X D a ρ σ m fun x ρ σ m=>Ask m (lrN σ x) (LrR σ x) fun r m=>vl X D e ρ σ m fun v ρ σ m=>AskC m (apN σ (.ref r) v) (ApR σ (.ref r) v) fun σ' m=>P .next ρ σ' m
noncomputable def q_popr(a:E):NS:=fun ρ σ m P=>vl X D a ρ σ m fun x ρ σ m=>AskC m (poN σ x) (PoR σ x) fun σ' m=>P .next ρ σ' m
noncomputable def q_ex(e:E):NS:=fun ρ σ m P=>vl X D e ρ σ m fun _ ρ σ m=>P .next ρ σ m
noncomputable def q_iff(c:E)(a b:NS):NS:=fun ρ σ m P=>(nE X D c).t ρ σ m fun w ρ σ m=>Br m w (fun m=>a ρ σ m P) fun m=>b ρ σ m P
noncomputable def q_whl(c:E)(b:Ss):NS:=fun ρ σ m P=>∀n f ρ' σ',Whl X D c b n ρ σ (f,ρ',σ')→P f ρ' σ' m
noncomputable def q_for1(i:Nat)(it:E)(b:Ss)(nb:NS):NS:=fun ρ σ m P=>vl X D it ρ σ m fun v ρ σ m=>Ask m (tuN v) (TupL v) fun xs m=>nFor X D (bd1 i) (B1 i) b nb xs ρ σ m P
noncomputable def q_for2(i j:Nat)(it:E)(b:Ss)(nb:NS):NS:=fun ρ σ m P=>vl X D it ρ σ m fun v ρ σ m=>Ask m (tuN v) (TupL v) fun xs m=>nFor X D (bd2 i j) (B2 i j) b nb xs ρ σ m P
noncomputable def q_forR(i:Nat)(it:E)(b:Ss)(nb:NS):NS:=fun ρ σ m P=>vl X D it ρ σ m fun v ρ σ m=>Ask m (nat v) (fun k=>v=.int (.ofNat k)) fun k m=>Cnd m (Nat.ble k LIM) fun m=>nFor X D (bd1 i) (B1 i) b nb (rng 0 k) ρ σ m P
noncomputable def q_ret(e:E):NS:=fun ρ σ m P=>vl X D e ρ σ m fun v ρ σ m=>P (.ret v) ρ σ m
noncomputable def q_fl(f:Fl):NS:=fun ρ σ m P=>P f ρ σ m
noncomputable def q_cons(s b:NS):NS:=fun ρ σ m P=>s ρ σ m fun f ρ σ m=>cF f (b ρ σ m P) (P .brk ρ σ m) (P .cont ρ σ m) fun v=>P (.ret v) ρ σ m
noncomputable def nB:Ss→NS:=@Ss.rec (fun _=>NS) (fun _=>NS) (q_asg X D) (q_asgl X D) (q_asgt X D) (q_unp X D) (q_seti X D) (q_setl X D) (q_seta X D) (q_aug X D) (q_asgC X D) (q_app X D) (q_ext X D) (q_appr X D) (q_popr X D) (q_ex X D) (fun c _ _ a b=>q_iff X D c a b) (fun c b _=>q_whl X D c b)
 (fun i it b nb=>q_for1 X D i it b nb) (fun i j it b nb=>q_for2 X D i j it b nb) (fun i it b nb=>q_forR X D i it b nb) (q_ret X D) (q_fl (.ret .none)) (q_fl .brk) (q_fl .cont) (q_fl .next) (fun _ _ s b=>q_cons s b) fun _ _ _ _=>True
noncomputable def SS(n:NS)(s:S):Prop:=∀ρ σ m P,(∀f ρ' σ' m',OkS X D s ρ σ (f,ρ',σ')→P f ρ' σ' m')→n ρ σ m P
noncomputable def SB(n:NS)(b:Ss):Prop:=∀ρ σ m P,(∀f ρ' σ' m',OkB X D b ρ σ (f,ρ',σ')→P f ρ' σ' m')→n ρ σ m P
end
section
variable {X:Wd}{D:Nat}{e a k v it:E}{es:Es}{b:Ss}{nb na:NS}{i j n:Nat}
theorem lvc{o:Option Lv}{p:V→Prop}{q:List V→Prop}(h1:∀x,o=some (.v x)→p x)(h2:∀x,o=some (.o x)→q x):LvC o p q:=by
 induction o with
 |none=>trivial
 |some l=>
  induction l with
  |v x=>exact h1 x rfl
  |o xs=>exact h2 xs rfl
theorem lvo{o:Option Lv}{q:List V→Prop}(h2:∀x,o=some (.o x)→q x):LvC o (fun _=>True) q:=lvc (fun _ _=>trivial) h2
theorem z_asg:SS X D (q_asg X D i e) (.asg i e):=fun ρ σ m P k=>(s_e e).e ρ σ m _ fun v ρ₁ σ₁ m₁ h=>k _ _ _ m₁ (s_asg h)
theorem z_asgl:SS X D (q_asgl X D i es) (.asgl i es):=fun ρ σ m P k=>(s_l es).l ρ σ m _ fun v ρ₁ σ₁ m₁ h=>k _ _ _ m₁ (s_asgl h.l)
theorem z_asgt:SS X D (q_asgt X D i e) (.asgt i e):=fun ρ σ m P k=>(s_e e).e ρ σ m _ fun v ρ₁ σ₁ m₁ h=>Ask.mk tpN_ fun xs m q=>k _ _ _ m (s_asgt (q▸h))
theorem z_unp{is:List Nat}:SS X D (q_unp X D is e) (.unp is e):=fun ρ σ m P k=>(s_e e).e ρ σ m _ fun v ρ₁ σ₁ m₁ h=>Ask.mk tpN_ fun xs m q=>by
 cases hl:Nat.beq is.length xs.length with
 |false=>trivial
 |true=>exact k _ _ _ m (s_unp (q▸h) (Qy hl))
theorem z_seti:SS X D (q_seti X D a k v) (.seti a k v):=fun ρ σ m P kk=>(s_e v).e ρ σ m _ fun x ρ₁ σ₁ m₁ h1=>(s_e a).e ρ₁ σ₁ m₁ _ fun y ρ₂ σ₂ m₂ h2=>(s_e k).e ρ₂ σ₂ m₂ _ fun z ρ₃ σ₃ m₃ h3=>AskC.mk setN_ fun σ' m r=>kk _ _ _ m (s_seti h1 h2 h3 r)
theorem z_setl:SS X D (q_setl X D i k v) (.setl i k v):=fun ρ σ m P kk=>(s_e v).e ρ σ m _ fun x ρ₁ σ₁ m₁ h1=>lvo fun xs e1=>(s_e k).e ρ₁ σ₁ m₁ _ fun z ρ₂ σ₂ m₂ h2=>Ask.mk nat_ fun j m q=>lvo fun ys e2=>Cnd.mk fun hj m=>kk _ _ _ m (s_setl h1 e1 (q▸h2) e2 (Qs.mp hj))
theorem z_seta:SS X D (q_seta X D a n v) (.seta a n v):=fun ρ σ m P kk=>(s_e v).e ρ σ m _ fun x ρ₁ σ₁ m₁ h1=>(s_e a).e ρ₁ σ₁ m₁ _ fun y ρ₂ σ₂ m₂ h2=>AskC.mk saN_ fun σ' m r=>kk _ _ _ m (r.rec (motive:=fun σ' _=>OkS X D (.seta a n v) ρ σ (.next,ρ₂,σ')) fun _ h hl=>r_seta h1 h2 h hl)
theorem z_aug:SS X D (q_aug X D i e) (.aug i e):=fun ρ σ m P k=>lvc (fun x e1=>Ask.mk iN_ fun a m q=>(s_e e).e ρ σ m _ fun y ρ₁ σ₁ m₁ h=>Ask.mk iN_ fun b m q'=>k _ _ _ m (s_aug (q▸e1) (q'▸h))) fun _ _=>trivial
theorem z_asgC{g:Bool}{cap:List Nat}:SS X D (q_asgC X D g j cap e i it) (.asgC g j cap e i it):=fun ρ σ m P k=>(s_e it).e ρ σ m _ fun v ρ₁ σ₁ m₁ h xs ρc zs σ' hv h1 h2 h3=>by
 induction g with
 |true=>exact k _ _ _ m₁ (s_asgC h hv h1 h2 h3)
 |false=>obtain⟨n,rfl,hn,rfl⟩:=hv;exact k _ _ _ m₁ (s_asgR h hn h1 h2 h3)
theorem z_app:SS X D (q_app X D i e) (.app i e):=fun ρ σ m P k=>lvo fun xs e1=>(s_e e).e ρ σ m _ fun v ρ₁ σ₁ m₁ h=>lvo fun ys e2=>Cnd.mk fun hl m=>k _ _ _ m (s_app e1 h e2 (Qs.mp hl))
theorem z_ext:SS X D (q_ext X D i e) (.ext i e):=fun ρ σ m P k=>lvo fun xs e1=>(s_e e).e ρ σ m _ fun v ρ₁ σ₁ m₁ h=>Ask.mk tpN_ fun zs m q=>lvo fun ys e2=>Cnd.mk fun hl m=>k _ _ _ m (s_ext e1 (q▸h) e2 (QO hl))
theorem z_appr:SS X D (q_appr X D a e) (.appr a e):=fun ρ σ m P k=>(s_e a).e ρ σ m _ fun x ρ₁ σ₁ m₁ h1=>Ask.mk lrN_ fun r m q=>(s_e e).e ρ₁ σ₁ m _ fun v ρ₂ σ₂ m₂ h2=>AskC.mk apN_ fun σ' m w=>k _ _ _ m (by
 obtain⟨xs,rfl,e1⟩:=q
 obtain⟨r',ys,e2,e3,hl⟩:=w
 cases e2
 exact s_appr h1 e1 h2 e3 hl)
theorem z_popr:SS X D (q_popr X D a) (.popr a):=fun ρ σ m P k=>(s_e a).e ρ σ m _ fun x ρ₁ σ₁ m₁ h1=>AskC.mk poN_ fun σ' m w=>k _ _ _ m (by
 obtain⟨r,ys,rfl,e3,hl⟩:=w
 exact s_popr h1 e3 hl)
theorem z_ex:SS X D (q_ex X D e) (.ex e):=fun ρ σ m P k=>(s_e e).e ρ σ m _ fun v ρ₁ σ₁ m₁ h=>k _ _ _ m₁ (s_ex h)
theorem z_iff{a b:Ss}(ha:SB X D na a)(hb:SB X D nb b):SS X D (q_iff X D e na nb) (.iff e a b):=fun ρ σ m P k=>(s_e e).t ρ σ m _ fun w ρ₁ σ₁ m₁ h=>Br.mk (fun q m=>ha ρ₁ σ₁ m _ fun f ρ' σ' m' h'=>k _ _ _ m' (s_iff (v:=true) (q▸h) h')) fun q m=>hb ρ₁ σ₁ m _ fun f ρ' σ' m' h'=>k _ _ _ m' (s_iff (v:=false) (q▸h) h')
theorem z_whl:SS X D (q_whl X D e b) (.whl e b):=fun ρ σ m P k n f ρ' σ' h=>k f ρ' σ' m (s_whl h)
theorem s_unroll{bd:V→Rho→(Rho→Prop)→Prop}{B:V→Rho→Rho→Prop}(hd:∀{x ρ k},(∀ρ',B x ρ ρ'→k ρ')→bd x ρ k)(hb:SB X D nb b){xs:List V}:∀{ρ σ m P},(∀f ρ' σ' m',Rounds X D B b xs ρ σ (f,ρ',σ')→P f ρ' σ' m')→unroll bd nb P xs ρ σ m:=by
 induction xs with
 |nil=>exact fun{ρ σ m P} k=>k _ _ _ m .nil
 |cons x xs ih=>
  refine fun{ρ σ m P} k=>hd fun ρ₁ h1=>hb ρ₁ σ m _ fun f ρ₂ σ₂ m₂ h2=>?_
  induction f with
  |next=>exact ih fun f ρ' σ' m' h=>k _ _ _ m' (.go h1 h2 .next h)
  |cont=>exact ih fun f ρ' σ' m' h=>k _ _ _ m' (.go h1 h2 .cont h)
  |brk=>exact k _ _ _ m₂ (.out h1 h2 .brk)
  |ret v=>exact k _ _ _ m₂ (.out h1 h2 (.ret v))
theorem s_nFor{bd:V→Rho→(Rho→Prop)→Prop}{B:V→Rho→Rho→Prop}(hd:∀{x ρ k},(∀ρ',B x ρ ρ'→k ρ')→bd x ρ k)(hb:SB X D nb b){xs:List V} {ρ σ m P}(k:∀f ρ' σ' m',Rounds X D B b xs ρ σ (f,ρ',σ')→P f ρ' σ' m'):nFor X D bd B b nb xs ρ σ m P:=by
 unfold nFor
 cases Nat.beq (m % 2) 1 with
 |true=>exact fun f ρ' σ' h=>k f ρ' σ' _ h
 |false=>exact s_unroll hd hb k
theorem h_bd1{x:V}{ρ:Rho}{k:Rho→Prop}(h:∀ρ',B1 i x ρ ρ'→k ρ'):bd1 i x ρ k:=h _ rfl
theorem h_bd2{x:V}{ρ:Rho}{k:Rho→Prop}(h:∀ρ',B2 i j x ρ ρ'→k ρ'):bd2 i j x ρ k:=by
 cases x with
 |tup l=>
  cases l with
  |nil=>trivial
  |cons a l=>
   cases l with
   |nil=>trivial
   |cons b l=>
    induction l with
    |nil=>exact h _ ⟨a,b,rfl,rfl⟩
    |cons _ _=>trivial
 |_=>trivial
theorem z_for1(hb:SB X D nb b):SS X D (q_for1 X D i it b nb) (.for1 i it b):=fun ρ σ m P k=>(s_e it).e ρ σ m _ fun v ρ₁ σ₁ m₁ h=>Ask.mk tuN_ fun xs m q=>s_nFor h_bd1 hb fun f ρ' σ' m' r=>k _ _ _ m' (s_for1 h q r)
theorem z_for2(hb:SB X D nb b):SS X D (q_for2 X D i j it b nb) (.for2 i j it b):=fun ρ σ m P k=>(s_e it).e ρ σ m _ fun v ρ₁ σ₁ m₁ h=>Ask.mk tuN_ fun xs m q=>s_nFor h_bd2 hb fun f ρ' σ' m' r=>k _ _ _ m' (s_for2 h q r)
theorem z_forR(hb:SB X D nb b):SS X D (q_forR X D i it b nb) (.forR i it b):=fun ρ σ m P k=>(s_e it).e ρ σ m _ fun v ρ₁ σ₁ m₁ h=>Ask.mk nat_ fun n m q=>Cnd.mk fun hn m=>s_nFor h_bd1 hb fun f ρ' σ' m' r=>k _ _ _ m' (s_forR (q▸h) (QO hn) r)
theorem z_ret:SS X D (q_ret X D e) (.ret e):=fun ρ σ m P k=>(s_e e).e ρ σ m _ fun v ρ₁ σ₁ m₁ h=>k _ _ _ m₁ (s_ret h)
theorem z_cons{s:S}(hs:SS X D na s)(hb:SB X D nb b):SB X D (q_cons na nb) (.cons s b):=fun ρ σ m P k=>hs ρ σ m _ fun f ρ₁ σ₁ m₁ h=>by
 induction f with
 |next=>exact hb ρ₁ σ₁ m₁ _ fun f ρ' σ' m' h'=>k _ _ _ m' (b_cons h h')
 |brk=>exact k _ _ _ m₁ (b_out h .brk)
 |cont=>exact k _ _ _ m₁ (b_out h .cont)
 |ret v=>exact k _ _ _ m₁ (b_out h (.ret v))
theorem s_b:∀b,SB X D (nB X D b) b:=@Ss.rec (fun s=>SS X D (@S.rec (fun _=>NS) (fun _=>NS) (q_asg X D) (q_asgl X D) (q_asgt X D) (q_unp X D) (q_seti X D) (q_setl X D) (q_seta X D) (q_aug X D) (q_asgC X D) (q_app X D) (q_ext X D) (q_appr X D) (q_popr X D) (q_ex X D) (fun c _ _ a b=>q_iff X D c a b) (fun c b _=>q_whl X D c b)
 (fun i it b nb=>q_for1 X D i it b nb) (fun i j it b nb=>q_for2 X D i j it b nb) (fun i it b nb=>q_forR X D i it b nb) (q_ret X D) (q_fl (.ret .none)) (q_fl .brk) (q_fl .cont) (q_fl .next) (fun _ _ s b=>q_cons s b) (fun _ _ _ _=>True) s) s) (fun b=>SB X D (nB X D b) b)
 (fun _ _=>z_asg) (fun _ _=>z_asgl) (fun _ _=>z_asgt) (fun _ _=>z_unp) (fun _ _ _=>z_seti) (fun _ _ _=>z_setl) (fun _ _ _=>z_seta) (fun _ _=>z_aug) (fun _ _ _ _ _ _=>z_asgC) (fun _ _=>z_app) (fun _ _=>z_ext) (fun _ _=>z_appr) (fun _=>z_popr) (fun _=>z_ex) (fun _ _ _ ha hb=>z_iff ha hb) (fun _ _ _=>z_whl)
 (fun _ _ _ hb=>z_for1 hb) (fun _ _ _ _ hb=>z_for2 hb) (fun _ _ _ hb=>z_forR hb) (fun _=>z_ret) (fun ρ σ m P k=>k _ _ _ m s_ret0) (fun ρ σ m P k=>k _ _ _ m s_brk) (fun ρ σ m P k=>k _ _ _ m s_cont) (fun ρ σ m P k=>k _ _ _ m b_nil) (fun _ _ hs hb=>z_cons hs hb) fun _ _ _ _ _=>trivial
noncomputable def fb(f:Nat):Ss:=@Option.rec Fn (fun _=>Ss) .nil Fn.body (code f)
noncomputable def okv(l:Bool)(f n:Nat):Bool:=@Option.rec Fn (fun _=>Bool) false (fun F=>(F.lends==l)&&Nat.beq n F.np) (code f)
inductive OkF(l:Bool)(f n:Nat):Prop
 |mk (F:Fn):code f=some F→F.lends=l→n=F.np→fb f=F.body→OkF l f n
theorem okv_{l:Bool}{f n:Nat}(h:okv l f n=true):OkF l f n:=by
 unfold okv at h
 cases e:code f with
 |none=>rw[e]at h;exact nomatch h
 |some F=>
  rw[e]at h
  obtain⟨h1,h2⟩:=band h
  exact⟨F,e,beq_iff_eq.mp h1,Qy h2,congrArg (@Option.rec Fn (fun _=>Ss) .nil Fn.body) e⟩
noncomputable def Rby(X:Wd)(D m f:Nat)(vs:List V)(σ:Sg):Prop:=nB X D (fb f) (argRho 0 vs) σ m fun fl _ σ' _=>cF fl (Runs X (D+1) f vs σ (.none,σ')) True True fun v=>Runs X (D+1) f vs σ (v,σ')
noncomputable def RbyL(X:Wd)(D m f:Nat)(vs ys:List V)(σ:Sg):Prop:=nB X D (fb f) ((0,.o ys)::argRho 1 vs) σ m fun fl ρ' σ' _=>cF fl (RunsL X (D+1) f vs ys σ (.none,ownOf ρ',σ')) True True fun v=>RunsL X (D+1) f vs ys σ (v,ownOf ρ',σ')
theorem wfn(m:Nat){f:Nat}{vs:List V}{σ:Sg}(h:okv false f vs.length=true):Rby X D m f vs σ:=by
 obtain⟨F,hc,h1,h2,h3⟩:=okv_ h
 exact s_b _ _ σ m _ fun fl ρ' σ' m' r=>by
  rw[h3]at r
  induction fl with
  |next=>exact r_fn hc h1 h2 r rfl
  |brk=>trivial
  |cont=>trivial
  |ret v=>exact r_fn hc h1 h2 r rfl
theorem wfnL(m:Nat){f:Nat}{vs ys:List V}{σ:Sg}(h:okv true f (vs.length+1)=true):RbyL X D m f vs ys σ:=by
 obtain⟨F,hc,h1,h2,h3⟩:=okv_ h
 exact s_b _ _ σ m _ fun fl ρ' σ' m' r=>by
  rw[h3]at r
  induction fl with
  |next=>exact r_fnL hc h1 h2 r rfl
  |brk=>trivial
  |cont=>trivial
  |ret v=>exact r_fnL hc h1 h2 r rfl
noncomputable def Bby(X:Wd)(D m:Nat)(b:Ss)(ρ:Rho)(σ:Sg):Prop:=nB X D b ρ σ m fun f ρ' σ' _=>OkB X D b ρ σ (f,ρ',σ')
noncomputable def Tby(X:Wd)(D m:Nat)(e:E)(ρ:Rho)(σ:Sg):Prop:=(nE X D e).t ρ σ m fun w ρ' σ' _=>OkT X D e ρ σ (w,ρ',σ')
theorem Runs.by(m:Nat){f:Nat}{vs:List V}{σ:Sg}{r:V × Sg}(h:okv false f vs.length=true)(g:Rby X D m f vs σ→Runs X (D+1) f vs σ r):Runs X (D+1) f vs σ r:=g (wfn m h)
theorem RunsL.by(m:Nat){f:Nat}{vs ys:List V}{σ:Sg}{r:V × Option (List V) × Sg}(h:okv true f (vs.length+1)=true)(g:RbyL X D m f vs ys σ→RunsL X (D+1) f vs ys σ r):RunsL X (D+1) f vs ys σ r:=g (wfnL m h)
theorem OkB.by(m:Nat){b:Ss}{ρ:Rho}{σ:Sg}{r:Fl × Rho × Sg}(g:Bby X D m b ρ σ→OkB X D b ρ σ r):OkB X D b ρ σ r:=g (s_b b ρ σ m _ fun _ _ _ _ h=>h)
theorem OkT.by(m:Nat){e:E}{ρ:Rho}{σ:Sg}{r:Bool × Rho × Sg}(g:Tby X D m e ρ σ→OkT X D e ρ σ r):OkT X D e ρ σ r:=g ((s_e e).t ρ σ m _ fun _ _ _ _ h=>h)
end
noncomputable def ren(μ:Nat→Nat):V→V:=@V.rec (fun _=>V) (fun _=>List V) .none .bool .int .str (fun _ l=>.tup l) (fun _ l=>.flist l) (fun i=>.ref (μ i)) .gd [] fun _ _ a l=>a::l
noncomputable def renL(μ:Nat→Nat):List V→List V:=@V.rec_1 (fun _=>V) (fun _=>List V) .none .bool .int .str (fun _ l=>.tup l) (fun _ l=>.flist l) (fun i=>.ref (μ i)) .gd [] fun _ _ a l=>a::l
theorem ren_l(μ:Nat→Nat)(xs:List V):renL μ xs=xs.map (ren μ):=by
 induction xs with
 |nil=>rfl
 |cons x xs ih=>exact congrArg (ren μ x::·) ih
theorem ren_tup(μ:Nat→Nat)(xs:List V):ren μ (.tup xs)=.tup (xs.map (ren μ)):=congrArg V.tup (ren_l μ xs)
theorem ren_fl(μ:Nat→Nat)(xs:List V):ren μ (.flist xs)=.flist (xs.map (ren μ)):=congrArg V.flist (ren_l μ xs)
noncomputable def renP{K:Type}(μ:Nat→Nat)(kvs:List (K × V)):List (K × V):=kvs.map fun p=>(p.1,ren μ p.2)
inductive Pl3:MObj→Prop
 |l (xs):Pl3 (.list xs)
 |i (xs):Pl3 (.idict xs)
 |s (xs):Pl3 (.sdict xs)
 |n (c d):Pl3 (.inst c d)
 |a (xs):Pl3 (.adict xs)
 |y:Pl3 .any
 |t (kvs):(∀μ,∀p∈kvs,ren μ p.1=p.1∧ren μ p.2=p.2)→Pl3 (.tdict kvs)
noncomputable def renO(μ:Nat→Nat)(o:MObj):MObj:=@MObj.casesOn (fun _=>MObj) o (fun xs=>.list (xs.map (ren μ))) (fun kvs=>.idict (renP μ kvs)) (fun kvs=>.sdict (renP μ kvs)) (fun c d=>.inst c (μ d)) (fun kvs=>.adict (renP μ kvs)) .tdict .any
theorem F2.of_map{α β γ:Type}{R:α→γ→Prop}{R':α→β→Prop}{f:β→γ}(k:∀a b,R a (f b)→R' a b):∀{bs:List β}{as:List α},F2 R as (bs.map f)→F2 R' as bs:=by
 intro bs
 induction bs with
 |nil=>intro as h;cases h;exact .nil
 |cons b bs ih=>intro as h;cases h with|cons h1 h2=>exact .cons (k _ _ h1) (ih h2)
theorem F2.map{α β γ:Type}{R:α→γ→Prop}{R':α→β→Prop}{f:β→γ}(k:∀a b,R' a b→R a (f b)){bs:List β}{as:List α}(h:F2 R' as bs):F2 R as (bs.map f):=by
 induction h with
 |nil=>exact .nil
 |cons h1 _ ih=>exact .cons (k _ _ h1) ih
theorem F2.memm{α β:Type}{R R':α→β→Prop}{as:List α}{bs:List β}(h:F2 R as bs):(∀a b,b∈bs→R a b→R' a b)→F2 R' as bs:=by
 induction h with
 |nil=>exact fun _=>.nil
 |cons h1 _ ih=>exact fun k=>.cons (k _ _ Qe h1) (ih fun a b hb=>k a b (Qg _ hb))
section
variable {X:Cx}{g g':Gh}{μ:Nat→Nat}{h:Heap}{a:Addr}
theorem ren_in(hφ:g'.φ=g.φ)(hμ:∀i a,g.ι[μ i]?=some a→g'.ι[i]?=some a):∀x u,VRep g u (ren μ x)→VRep g' u x:=
 @V.rec (fun x=>∀u,VRep g u (ren μ x)→VRep g' u x) (fun xs=>∀us,VReps g us (xs.map (ren μ))→VReps g' us xs)
  (fun u r=>(show u=.none from r.inv)▸.none) (fun b u r=>(show u=.bool b from r.inv)▸.bool b) (fun i u r=>by obtain⟨t,rfl⟩:∃t,u=.int i t:=r.inv;exact .int i t) (fun n u r=>by obtain⟨t,rfl,h⟩:∃t,u=.str (kn n) t∧n < 36:=r.inv;exact .str n t h)
  (fun xs ih u r=>by
   rw[ren_tup]at r
   obtain⟨a,o,vs,n,rfl,h1,h2,h3,h4,h5⟩:=r.inv
   exact .tup (hφ▸h1) h2 h3 (ih _ h4) (by rw[Qr]at h5;exact h5))
  (fun xs ih u r=>by
   rw[ren_fl]at r
   obtain⟨a,o,vs,n,rfl,h1,h2,h3,h4,h5⟩:=r.inv
   exact .flist (hφ▸h1) h2 h3 (ih _ h4) (by rw[Qr]at h5;exact h5))
  (fun i u r=>by obtain⟨a,rfl,h⟩:∃a,u=.ref a∧g.ι[μ i]?=some a:=r.inv;exact .ref (hμ i a h)) (fun t u r=>(show u=.ref (placeAddr t)from r.inv)▸.gd t)
  (fun us r=>by cases r;exact .nil) fun x xs h1 h2 us r=>by cases r with|cons r1 r2=>exact .cons (h1 _ r1) (h2 _ r2)
theorem ren_out(hφ:∀a o,g.φ a=some o→g'.φ a=some o)(hμ:∀i a,g.ι[i]?=some a→g'.ι[μ i]?=some a){x:V}{u:Value}(r:VRep g u x):VRep g' u (ren μ x):=
 VRep.rec (motive_1:=fun u x _=>VRep g' u (ren μ x)) (motive_2:=fun us xs _=>VReps g' us (xs.map (ren μ))) .none .bool .int .str
  (fun h1 h2 h3 _ h5 ih=>ren_tup μ _▸.tup (hφ _ _ h1) h2 h3 ih (by rw[Qr];exact h5)) (fun h1 h2 h3 _ h5 ih=>ren_fl μ _▸.flist (hφ _ _ h1) h2 h3 ih (by rw[Qr];exact h5)) (fun h=>.ref (hμ _ _ h)) .gd .nil (fun _ _ h1 h2=>.cons h1 h2) r
theorem mren_in(hφ:g'.φ=g.φ)(hμ:∀i a,g.ι[μ i]?=some a→g'.ι[i]?=some a){o:MObj}(p:Pl3 o)(r:MRep X g h a (renO μ o)):MRep X g' h a o:=by
 cases p with
 |l xs=>
  obtain⟨⟨vs,h1,h2⟩,h3⟩:=r
  exact⟨⟨vs,h1,F2.of_map (fun u x=>ren_in hφ hμ x u) h2⟩,by rw[Qr]at h3;exact h3⟩
 |i kvs=>
  obtain⟨ps,h1,h2⟩:=r
  exact⟨ps,h1,F2.of_map (fun u x q=>⟨q.1,ren_in hφ hμ x.2 u.2 q.2⟩) h2⟩
 |s kvs=>
  obtain⟨ps,h1,h2,h3⟩:=r
  exact⟨ps,h1,F2.of_map (fun u x q=>⟨q.1,ren_in hφ hμ x.2 u.2 q.2⟩) h2,fun p hp=>h3 (p.1,ren μ p.2) (List.mem_map.mpr ⟨p,hp,rfl⟩)⟩
 |n c d=>obtain⟨d,h1,h2⟩:=r;exact⟨d,hμ _ _ h1,h2⟩
 |y=>exact r
 |a kvs=>obtain⟨es,n,h1,h2⟩:=r;exact⟨es,n,h1,F2.of_map (fun u x q=>⟨q.lt,q.k,ren_in hφ hμ x.2 _ q.v⟩) h2⟩
 |t kvs hk=>
  obtain⟨⟨o,es,ep,h1,h2⟩,nd⟩:=r
  exact⟨⟨o,es,ep,h1,h2.1,h2.2.1,F2.memm h2.2.2 fun u x hx q=>⟨q.h,ren_in hφ hμ x.1 _ ((congrArg (VRep g _) (hk μ x hx).1).mpr q.k),ren_in hφ hμ x.2 _ ((congrArg (VRep g _) (hk μ x hx).2).mpr q.v)⟩⟩,nd⟩
theorem mren_out(hφ:∀a o,g.φ a=some o→g'.φ a=some o)(hμ:∀i a,g.ι[i]?=some a→g'.ι[μ i]?=some a){o:MObj}(p:Pl3 o)(r:MRep X g h a o):MRep X g' h a (renO μ o):=by
 cases p with
 |l xs=>
  obtain⟨⟨vs,h1,h2⟩,h3⟩:=r
  exact⟨⟨vs,h1,F2.map (fun u x q=>ren_out hφ hμ q) h2⟩,by rw[Qr];exact h3⟩
 |i kvs=>
  obtain⟨ps,h1,h2⟩:=r
  exact⟨ps,h1,F2.map (fun u x q=>⟨q.1,ren_out hφ hμ q.2⟩) h2⟩
 |s kvs=>
  obtain⟨ps,h1,h2,h3⟩:=r
  refine⟨ps,h1,F2.map (fun u x q=>⟨q.1,ren_out hφ hμ q.2⟩) h2,fun p hp=>?_⟩
  obtain⟨q,hq,rfl⟩:=List.mem_map.mp hp
  exact h3 q hq
 |n c d=>obtain⟨d,h1,h2⟩:=r;exact⟨d,hμ _ _ h1,h2⟩
 |y=>exact r
 |a kvs=>obtain⟨es,n,h1,h2⟩:=r;exact⟨es,n,h1,F2.map (fun u x q=>⟨q.lt,q.k,ren_out hφ hμ q.v⟩) h2⟩
 |t kvs hk=>
  obtain⟨⟨o,es,ep,h1,h2⟩,nd⟩:=r
  exact⟨⟨o,es,ep,h1,h2.1,h2.2.1,F2.memm h2.2.2 fun u x hx q=>⟨q.h,(congrArg (VRep g' _) (hk μ x hx).1).mp (ren_out hφ hμ q.k),(congrArg (VRep g' _) (hk μ x hx).2).mp (ren_out hφ hμ q.v)⟩⟩,nd⟩
end
noncomputable def mu(ps:List Nat)(N:Nat)(i:Nat):Nat:=(ps[i]?).getD (N+(i - ps.length))
noncomputable def sub(g:Gh)(ps:List Nat):Gh:=⟨g.φ,ps.map fun j=>(g.ι[j]?).getD 0⟩
structure Part(ps:List Nat)(σ σ' σ₂ σ₃:Sg):Prop where
 len:ps.length=σ.length
 nd:ps.Nodup
 pl:∀(i:Nat) o,σ[i]?=some o→Pl3 o
 pl':∀(i:Nat) o,σ'[i]?=some o→Pl3 o
 at0:∀(i j:Nat) o,ps[i]?=some j→σ[i]?=some o→∃o',σ₂[j]?=some o'∧(o'=renO (mu ps σ₂.length) o∨o=.any)
 grow:σ.length≤σ'.length
 len':σ₃.length=σ₂.length+(σ'.length - σ.length)
 at1:∀(i:Nat) o,σ'[i]?=some o→σ₃[mu ps σ₂.length i]?=some (renO (mu ps σ₂.length) o)
 off:∀(j:Nat) o,j∉ps→σ₂[j]?=some o→σ₃[j]?=some o
section
variable {X:Wd}{d f:Nat}{ps:List Nat}{σ σ' σ₂ σ₃:Sg}{g:Gh}{s:Shared}
theorem Part.lt(P:Part ps σ σ' σ₂ σ₃){i j:Nat}(e:ps[i]?=some j):j < σ₂.length:=by
 have hi:i < σ.length:=P.len▸(Qc.mp e).1
 exact(P.at0 i j _ e (Qj hi)).elim fun _ q=>(Qc.mp q.1).1
theorem sub_at{N:Nat}(hN:g.ι.length=N):∀i a,g.ι[mu ps N i]?=some a→(sub g ps).ι[i]?=some a:=fun i a e=>by
 show(ps.map _)[i]?=_
 rw[QJ]
 cases h:ps[i]? with
 |none=>
  have hi:ps.length≤i:=List.getElem?_eq_none_iff.mp h
  unfold mu at e
  rw[h]at e
  exact absurd (Qc.mp e).1 (by show ¬N+(i - ps.length) < _;rw[hN];exact Nat.not_lt.mpr (Qw _ _))
 |some j=>
  unfold mu at e
  rw[h]at e
  have e:g.ι[j]?=some a:=e
  show some ((g.ι[j]?).getD 0)=_
  rw[e];rfl
theorem sub_mem(P:Part ps σ σ' σ₂ σ₃)(I:HInv X.X g σ₂ s){i:Nat}{a:Addr}(e:(sub g ps).ι[i]?=some a):∃j,ps[i]?=some j∧g.ι[j]?=some a:=by
 have e:(ps.map fun j=>(g.ι[j]?).getD 0)[i]?=some a:=e
 rw[QJ]at e
 cases h:ps[i]? with
 |none=>rw[h]at e;exact nomatch e
 |some j=>
  rw[h]at e
  have hj:j < g.ι.length:=I.len▸P.lt h
  have e2:g.ι[j]?=some g.ι[j]:=Qj hj
  have e3:some ((g.ι[j]?).getD 0)=some a:=e
  rw[e2]at e3
  exact⟨j,rfl,e2.trans e3⟩
theorem Part.inv(P:Part ps σ σ' σ₂ σ₃)(I:HInv X.X g σ₂ s):HInv X.X (sub g ps) σ s where
 base:=I.base
 frz:=I.frz
 gens:=I.gens
 os:=I.os
 len:=(Qr ..).trans P.len
 ob:=fun i o a h1 h2=>by
  obtain⟨j,e1,e2⟩:=sub_mem P I h2
  obtain⟨o',q,rfl|rfl⟩:=P.at0 i j o e1 h1
  ·exact mren_in (g:=g) (g':=sub g ps) rfl (sub_at I.len) (P.pl i o h1) (I.ob j _ a q e2)
  ·exact trivial
 inj:=by
  refine List.pairwise_map.mpr (P.nd.imp_of_mem fun{j k} hj hk ne e=>?_)
  obtain⟨i,hi⟩:=QG.mp hj
  obtain⟨i',hi'⟩:=QG.mp hk
  have e1:g.ι[j]?=some (g.ι[j]'(I.len▸P.lt hi)):=Qj _
  have e2:g.ι[k]?=some (g.ι[k]'(I.len▸P.lt hi')):=Qj _
  rw[e1,e2]at e
  exact ne (nodup_idx I.inj e1 (e2.trans (congrArg some (show _=_ from e).symm)))
 unf:=fun a ha=>by
  obtain⟨i,hi⟩:=QG.mp ha
  obtain⟨j,_,e⟩:=sub_mem P I hi
  exact I.unf a (Qz e)
 lv:=fun a ha=>by
  obtain⟨i,hi⟩:=QG.mp ha
  obtain⟨j,_,e⟩:=sub_mem P I hi
  exact I.lv a (Qz e)
noncomputable def bk(g g':Gh)(n:Nat):Gh:=⟨g'.φ,g.ι++g'.ι.drop n⟩
theorem mu_lt{N i j:Nat}(e:ps[i]?=some j):mu ps N i=j:=by unfold mu;rw[e];rfl
theorem mu_ge{N i:Nat}(e:ps.length≤i):mu ps N i=N+(i - ps.length):=by unfold mu;rw[List.getElem?_eq_none e];rfl
section
variable {g':Gh}{s':Shared}{h:Heap}
theorem Part.io(P:Part ps σ σ' σ₂ σ₃)(I:HInv X.X g σ₂ s)(st:HStep (sub g ps) h g' s'.heap){i:Nat}{a:Addr}(e:g'.ι[i]?=some a):(bk g g' σ.length).ι[mu ps σ₂.length i]?=some a:=by
 rcases Nat.lt_or_ge i ps.length with hi|hi
 ·have e1:ps[i]?=some ps[i]:=Qj hi
  have hl:i <(sub g ps).ι.length:=by show i <(ps.map _).length;rw[Qr];exact hi
  have e2:(sub g ps).ι[i]?=some (sub g ps).ι[i]:=Qj hl
  obtain⟨j,q1,q2⟩:=sub_mem P I e2
  rw[mu_lt q1]
  obtain rfl:=sij ((st.le.io _ _ e2).symm.trans e)
  exact(Qp (I.len▸P.lt q1)).trans q2
 ·rw[mu_ge hi]
  show(g.ι++g'.ι.drop σ.length)[_]?=_
  rw[← I.len,List.getElem?_append_right (Qw _ _),Nat.add_sub_cancel_left,List.getElem?_drop,← P.len,Nat.add_sub_cancel' hi]
  exact e
theorem Part.back(P:Part ps σ σ' σ₂ σ₃)(I:HInv X.X g σ₂ s)(I':HInv X.X g' σ' s')(st:HStep (sub g ps) s.heap g' s'.heap):HInv X.X (bk g g' σ.length) σ₃ s'∧HStep g s.heap (bk g g' σ.length) s'.heap:=by
 have le:g.Le (bk g g' σ.length):=⟨st.le.phi,fun i a e=>(Qp (Qc.mp e).1).trans e⟩
 have sb:∀{a},a∈(sub g ps).ι→a∈g.ι:=fun h=>by
  obtain⟨i,hi⟩:=QG.mp h
  obtain⟨j,_,e⟩:=sub_mem P I hi
  exact Qz e
 have sp:∀{a},a∈(bk g g' σ.length).ι→a∈g.ι∨(a∈g'.ι.drop σ.length):=fun h=>QI.mp h
 have dr:∀{a},a∈g'.ι.drop σ.length→a∈g'.ι:=fun h=>List.mem_of_mem_drop h
 refine⟨⟨fun b o e=>I'.base b o e,I'.frz,I'.gens,I'.os,?_,fun j m a h1 h2=>?_,?_,fun a ha=>?_,fun a ha=>?_⟩,le,st.live,fun a q1=>st.kept a fun h=>q1 (sb h),fun a ha=>?_,fun _ _ e=>(nomatch e),st.newf⟩
 ·show(g.ι++g'.ι.drop σ.length).length=_
  rw[Qb,List.length_drop,I.len,I'.len,P.len']
 ·have hit:∀i,i < σ'.length→mu ps σ₂.length i=j→MRep X.X (bk g g' σ.length) s'.heap a m:=fun i hi e=>by
   have e1:σ'[i]?=some σ'[i]:=Qj hi
   have e2:g'.ι[i]?=some (g'.ι[i]'(I'.len▸hi)):=Qj _
   obtain rfl:=sij ((e▸P.at1 i _ e1).symm.trans h1)
   obtain rfl:=sij ((e▸P.io I st e2).symm.trans h2)
   exact mren_out (g:=g') (g':=bk g g' σ.length) (fun _ _ e=>e) (fun _ _ e=>P.io I st e) (P.pl' i _ e1) (I'.ob i _ _ e1 e2)
  by_cases hj:j∈ps
  ·obtain⟨i,hi⟩:=QG.mp hj
   exact hit i (QE (P.len▸(Qc.mp hi).1) P.grow) (mu_lt hi)
  ·rcases Nat.lt_or_ge j σ₂.length with hl|hl
   ·have e1:σ₂[j]?=some σ₂[j]:=Qj hl
    obtain rfl:=sij ((P.off j _ hj e1).symm.trans h1)
    have e2:g.ι[j]?=some a:=(Qp (I.len.symm▸hl)).symm.trans h2
    refine(I.ob j _ a e1 e2).mono le (st.kept a (fun h=>?_) (fun _ e=>nomatch e) fun e=>e)
    obtain⟨i,hi⟩:=QG.mp h
    obtain⟨k,e3,e4⟩:=sub_mem P I hi
    exact hj (nodup_idx I.inj e4 e2▸Qz e3)
   ·have h3:=(Qc.mp h1).1
    rw[P.len']at h3
    refine hit (ps.length+(j - σ₂.length)) ?_ ?_
    ·rw[P.len];lia
    ·rw[mu_ge (Qw _ _),Nat.add_sub_cancel_left,Nat.add_sub_cancel' hl]
 ·refine List.nodup_append.mpr ⟨I.inj,I'.inj.sublist (List.drop_sublist _ _),fun a ha b hb e=>?_⟩
  subst e
  rcases st.newi a (dr hb)with h|h
  ·obtain⟨i,hi⟩:=QG.mp h
   obtain⟨k,hk⟩:=QG.mp hb
   rw[List.getElem?_drop]at hk
   have hl:=(Qc.mp hi).1
   have hl:i <(ps.map fun j=>(g.ι[j]?).getD 0).length:=hl
   rw[Qr,P.len]at hl
   have:=nodup_idx I'.inj (st.le.io _ _ hi) hk
   lia
  ·exact dead_lv h (I.lv a ha)
 ·rcases sp ha with h|h
  ·cases e:g'.φ a with
   |none=>exact e
   |some o=>exact((st.newf a o e).elim (fun q=>nomatch (I.unf a h).symm.trans q) fun q=>q.elim (fun⟨_,q⟩=>nomatch q) fun q=>dead_lv q (I.lv a h)).elim
  ·exact I'.unf a (dr h)
 ·exact(sp ha).elim (fun h=>st.live a (I.lv a h)) fun h=>I'.lv a (dr h)
 ·exact(sp ha).elim .inl fun h=>(st.newi a (dr h)).imp sb id
theorem Runs.part{vs:List V}{v:V}(P:Part ps σ σ' σ₂ σ₃)(r:Runs X d f vs σ (v,σ')):Runs X d f (vs.map (ren (mu ps σ₂.length))) σ₂ (ren (mu ps σ₂.length) v,σ₃):=
 ⟨r.fn,fun A s g us R I hr=>codeAny_mono (r.run A s (sub g ps) us R (P.inv I) (F2.of_map (fun u x=>ren_in (g:=g) (g':=sub g ps) rfl (sub_at I.len) x u) hr)) fun res s' q=>by
  obtain⟨u,rfl,g',I',r',st⟩:=q
  obtain⟨J,st'⟩:=P.back I I' st
  exact⟨u,rfl,bk g g' σ.length,J,ren_out (g:=g') (g':=bk g g' σ.length) (fun _ _ e=>e) (fun _ _ e=>P.io I st e) r',st'⟩⟩
noncomputable def Blw(n:Nat)(v:V):Prop:=∀μ μ':Nat→Nat,(∀i,i < n→μ i=μ' i)→ren μ v=ren μ' v
theorem rep_blw{u:Value}{x:V}(r:VRep g u x):Blw g.ι.length x:=fun μ μ' e=>
 VRep.rec (g:=g) (motive_1:=fun _ x _=>ren μ x=ren μ' x) (motive_2:=fun _ xs _=>xs.map (ren μ)=xs.map (ren μ')) rfl (fun _=>rfl) (fun _ _=>rfl) (fun _ _ _=>rfl)
  (fun _ _ _ _ _ ih=>by rw[ren_tup,ren_tup,ih]) (fun _ _ _ _ _ ih=>by rw[ren_fl,ren_fl,ih]) (fun h=>congrArg V.ref (e _ (Qc.mp h).1)) (fun _=>rfl) rfl (fun _ _ h1 h2=>by rw[List.map_cons,List.map_cons,h1,h2]) r
noncomputable def BlS(σ:Sg):Prop:=∀μ μ':Nat→Nat,(∀i,i < σ.length→μ i=μ' i)→σ.map (renO μ)=σ.map (renO μ')
theorem F2.right{α β:Type}{R:α→β→Prop}{Q:β→Prop}{as:List α}{bs:List β}(h:F2 R as bs)(k:∀a b,R a b→Q b):∀b∈bs,Q b:=by
 induction h with
 |nil=>exact fun _ h=>nomatch h
 |cons h1 _ ih=>exact fun b hb=>(Qt.mp hb).elim (fun e=>e▸k _ _ h1) (ih b)
theorem inv_bls(I:HInv X.X g σ s):BlS σ:=fun μ μ' e=>QL fun m hm=>by
 obtain⟨i,hi⟩:=QG.mp hm
 have bl:∀u x,VRep g u x→ren μ x=ren μ' x:=fun u x r=>rep_blw r μ μ' (I.len.symm▸e)
 have r:=I.ob i m _ hi (Qj (I.len.symm▸(Qc.mp hi).1))
 induction m with
 |list xs=>obtain⟨⟨vs,_,h⟩,_⟩:=r;exact congrArg MObj.list (QL (h.right bl))
 |idict kvs=>obtain⟨ps,_,h⟩:=r;exact congrArg MObj.idict (QL (h.right fun a b q=>congrArg (Prod.mk b.1) (bl _ _ q.2)))
 |sdict kvs=>obtain⟨ps,_,h,_⟩:=r;exact congrArg MObj.sdict (QL (h.right fun a b q=>congrArg (Prod.mk b.1) (bl _ _ q.2)))
 |inst c d=>obtain⟨_,h,_⟩:=r;exact congrArg (MObj.inst c) (e d (I.len▸(Qc.mp h).1))
 |adict kvs=>obtain⟨es,_,_,h⟩:=r;exact congrArg MObj.adict (QL (h.right fun a b q=>congrArg (Prod.mk b.1) (bl _ _ q.v)))
 |tdict kvs=>rfl
 |any=>rfl
theorem Runs.wlog{vs:List V}{v:V}(r:Runs X d f vs σ (v,σ')):(Blw σ'.length v∧BlS σ')∨∀q,Runs X d f vs σ q:=by
 by_cases h:Blw σ'.length v∧BlS σ'
 ·exact .inl h
 ·exact .inr fun q=>⟨r.fn,fun A s g us R I hr=>codeAny_mono (r.run A s g us R I hr) fun res s' x=>by
   obtain⟨u,rfl,g',I',r',st⟩:=x
   exact absurd ⟨I'.len▸rep_blw r',inv_bls I'⟩ h⟩
end
end
structure RW where
 cs:List Int
 lids:List V
 heard:Int
 log:List V
 stop:Bool
 seen:List (Int × V)
 cells:List V
 held:List (Int × V)
 hole:Int
 caught:List V
structure Xt where
 a:MObj
 b:MObj
 c:MObj
 d:MObj
 e:MObj
 f:MObj
 g:MObj
 h:MObj
 i:MObj
structure RP where
 rdy:Bool
 of:List V
 wi:List (Int × V)
 gr:List V
 d:List (Nat × V)
 x:Xt
noncomputable def cref(i:Nat):V:=.ref (i+20)
noncomputable def wd(r:Bool)(W:RW):List (Nat × V):=
 [(8,.int 16),(9,.int 17),(5,.ref 1),(6,.ref 2),(10,.int W.cs.length),(11,.int W.heard),(12,.ref 13),(13,.bool W.stop),(14,.ref 14),(15,.ref 15),(16,.ref 16),(17,.int W.hole),(18,.ref 17),(19,.ref 18),(20,.bool r)]
noncomputable def cellsOf(k:Nat)(cs:List Int):List MObj:=@List.rec Int (fun _=>Nat→List MObj) (fun _=>[]) (fun c _ ih k=>.list [.int c,.int ((k:Int)+1)]::ih (k+1)) cs k
noncomputable def rs(P:RP)(W:RW):Sg:=.list P.of::.idict P.wi::.list P.gr::.sdict P.d::P.x.a::P.x.b::P.x.c::P.x.d::P.x.e::P.x.f::P.x.g::P.x.h::P.x.i::.list W.log::.idict W.seen::.list W.cells::.idict W.held::.list W.caught::.list W.lids::.sdict (wd P.rdy W)::cellsOf 0 W.cs
theorem cells_get{cs:List Int}:∀{k i:Nat}{c:Int},cs[i]?=some c→(cellsOf k cs)[i]?=some (.list [.int c,.int (((k+i:Nat):Int)+1)]):=by
 induction cs with
 |nil=>exact fun h=>nomatch h
 |cons a cs ih=>
  intro k i c h
  induction i with
  |zero=>obtain rfl:=sij h;rfl
  |succ i=>exact(ih (k:=k+1) (i:=i) h).trans (by rw[Nat.add_assoc,Nat.add_comm 1 i])
theorem cells_set{cs:List Int}:∀{k i:Nat}{v:Int},(cellsOf k cs).set i (.list [.int v,.int (((k+i:Nat):Int)+1)])=cellsOf k (cs.set i v):=by
 induction cs with
 |nil=>intros;rfl
 |cons a cs ih=>
  intro k i v
  induction i with
  |zero=>rfl
  |succ i=>
   refine congrArg (_::·) (Eq.trans ?_ (ih (k:=k+1) (i:=i) (v:=v)))
   rw[Nat.add_assoc,Nat.add_comm 1 i]
   rfl
theorem cells_add{cs:List Int}:∀{k:Nat}{v:Int},cellsOf k cs++[.list [.int v,.int (((k+cs.length:Nat):Int)+1)]]=cellsOf k (cs++[v]):=by
 induction cs with
 |nil=>intros;rfl
 |cons a cs ih=>
  intro k v
  refine congrArg (_::·) (Eq.trans ?_ (ih (k:=k+1) (v:=v)))
  rw[Nat.add_assoc,Nat.add_comm 1 cs.length];rfl
theorem cells_len{cs:List Int}:∀{k:Nat},(cellsOf k cs).length=cs.length:=by
 induction cs with
 |nil=>intros;rfl
 |cons a cs ih=>exact congrArg (·+ 1) ih
section
variable {X:Wd}{D:Nat}{P:RP}{W:RW}{v:V}{l i:Nat}{c x:Int}
theorem note_late(h:13 < W.heard):Runs X (D+1) 760 [.ref 19,v] (rs P W) (.none,rs P {W with stop:=true}):=.by 4 rfl fun q=>q true (QZ h)
theorem note_stop(s:W.stop=true):Runs X (D+1) 760 [.ref 19,v] (rs P W) (.none,rs P W):=by
 by_cases h:13 < W.heard
 ·have:=note_late (X:=X) (D:=D) (P:=P) (v:=v) h
  rw[show({W with stop:=true}:RW)=W by rw[← s]]at this
  exact this
 ·exact .by 36 rfl fun q=>q false (decide_eq_false h) false (by rw[s];rfl)
theorem note_go(h:¬13 < W.heard)(s:W.stop=false)(hl:W.log.length < LIM):Runs X (D+1) 760 [.ref 19,v] (rs P W) (.none,rs P {W with heard:=W.heard+1,log:=W.log++[v]}):=.by 16420 rfl fun q=>q false (decide_eq_false h) true (by rw[s];rfl) (Qs.mpr hl)
theorem put_stop(s:W.stop=true):Runs X (D+1) 753 [.ref 19,.int (.ofNat l),v] (rs P W) (.none,rs P W):=.by 4 rfl fun q=>q false (by rw[s];rfl)
theorem put_go(s:W.stop=false)(hl:W.lids[l]?=some (cref i))(hc:W.cs[i]?=some c):Runs X (D+1) 753 [.ref 19,.int (.ofNat l),.int x] (rs P W) (.none,rs P {W with cs:=W.cs.set i x}):=by
 have e:(rs P W).set (i+20) (.list ([.int c,.int (((0+i:Nat):Int)+1)].set 0 (.int x)))=rs P {W with cs:=W.cs.set i x}:=by
  show _::_::_::_::_::_::_::_::_::_::_::_::_::_::_::_::_::_::_::_::(cellsOf 0 W.cs).set i (.list [.int x,.int (((0+i:Nat):Int)+1)])=_
  rw[cells_set]
  unfold rs wd
  rw[QP]
 exact e▸.by 52 rfl fun q=>q true (by rw[s];rfl) _ (.nth (.ls rfl) hl) _ (.ls (j:=0) (cells_get hc) (Nat.zero_lt_succ _))
theorem fresh_ok:Runs X (D+1) 739 [.ref 19,.int x] (rs P W) (cref W.cs.length,rs P {W with cs:=W.cs++[x]}):=by
 have e:(rs P W).set 19 (.sdict (storedA (wd P.rdy W) 10 (.int ((W.cs.length:Int)+1))))++[.list [.int x,.int ((W.cs.length:Int)+1)]]=rs P {W with cs:=W.cs++[x]}:=by
  have h:=cells_add (cs:=W.cs) (k:=0) (v:=x)
  rw[Nat.zero_add]at h
  show _::_::_::_::_::_::_::_::_::_::_::_::_::_::_::_::_::_::_::_::(cellsOf 0 W.cs++[.list [.int x,.int ((W.cs.length:Int)+1)]])=_
  rw[h]
  unfold rs wd
  rw[Qb]
  rfl
 have l:((rs P W).set 19 (.sdict (storedA (wd P.rdy W) 10 (.int ((W.cs.length:Int)+1))))).length=W.cs.length+20:=by
  rw[QP]
  exact congrArg (·+ 20) cells_len
 have h:Runs X (D+1) 739 [.ref 19,.int x] (rs P W) (.ref ((rs P W).set 19 (.sdict (storedA (wd P.rdy W) 10 (.int ((W.cs.length:Int)+1))))).length,(rs P W).set 19 (.sdict (storedA (wd P.rdy W) 10 (.int ((W.cs.length:Int)+1))))++[.list [.int x,.int ((W.cs.length:Int)+1)]]):=.by 0 rfl fun q=>q
 rw[e,l]at h
 exact h
end
noncomputable abbrev Ev(X:Wd)(D:Nat)(P:RP)(e:V)(W:RW)(x:Int)(W':RW):Prop:=Runs X D 786 [.ref 19,e] (rs P W) (.int x,rs P W')
section
variable {X:Wd}{D:Nat}{P:RP}{W W₁ W₂ W₃:RW}{v e e' L:V}{l i m f:Nat}{c k x y:Int}{vs zs:List V}{b:Bool}
theorem wait_ok(h1:Runs X D 760 [.ref 19,.tup [.str 22,v]] (rs P W) (.none,rs P W₁))(hl:W₁.lids[1]?=some (cref i))(hc:W₁.cs[i]?=some c)(h2:Runs X D 753 [.ref 19,.int (.ofNat 1),.int ((c+1) % 4)] (rs P W₁) (.none,rs P W₂)):Runs X (D+1) 774 [.ref 19,v] (rs P W) (.int (W₂.heard % 4),rs P W₂):=
 .by 6 rfl fun q=>q _ _ h1 _ (.nth (.ls rfl) hl) _ (.nth (.ls (cells_get hc)) rfl) _ _ h2
theorem ev_const:Ev X (D+1) P (.tup [.int 1,.int k,.int c]) W c W:=.by 0 rfl fun q=>q
theorem ev_loc(hl:W.lids[l]?=some (cref i))(hc:W.cs[i]?=some c):Ev X (D+1) P (.tup [.int 2,.int 7,.int (.ofNat l)]) W c W:=.by 384 rfl fun q=>q _ (.nth (.ls rfl) hl) _ (.nth (.ls (cells_get hc)) rfl)
theorem ev_slot(h:lookA W.held x=some (.int c)):Ev X (D+1) P (.tup [.int 91,.int k,.int x]) W c W:=.by 512 rfl fun q=>q _ (.ikey rfl h)
theorem ev_hole:Ev X (D+1) P (.tup [.int 32,.int k]) W W.hole W:=.by 0 rfl fun q=>q
theorem ev_await(r:P.rdy=false)(h1:Ev X D P e W x W₁)(h2:Runs X D 774 [.ref 19,.int x] (rs P W₁) (.int y,rs P W₂)):Ev X (D+1) P (.tup [.int 30,.int k,e]) W y W₂:=.by 32768 rfl fun q=>q false r _ _ h1 _ _ h2
theorem ev_left(r:P.rdy=true)(h0:Runs X D 760 [.ref 19,.tup [.str 7]] (rs P W) (.none,rs P W₁))(h1:Ev X D P e W₁ x W₂)(h2:Runs X D 774 [.ref 19,.int x] (rs P W₂) (.int y,rs P W₃)):Ev X (D+1) P (.tup [.int 30,.int k,e]) W y W₃:=.by 32768 rfl fun q=>q true r _ _ h0 _ _ h1 _ _ h2
theorem ev_asg(h1:Ev X D P e W x W₁)(h2:Runs X D 753 [.ref 19,.int (.ofNat l),.int x] (rs P W₁) (.none,rs P W₂)):Ev X (D+1) P (.tup [.int 22,.int 7,.tup [.int 2,.int 7,.int (.ofNat l)],e]) W x W₂:=.by 0 rfl fun q=>q _ _ h1 _ _ h2
theorem ev_lam(h:Runs X D 767 [.ref 19,.int (.ofNat f)] (rs P W) (.none,rs P W₁)):Ev X (D+1) P (.tup [.int 24,.int 16,.int (.ofNat f)]) W 0 W₁:=.by 0 rfl fun q=>q _ _ h
theorem ev_bin(h1:Ev X D P e W x W₁)(h2:Ev X D P e' W₁ y W₂):Ev X (D+1) P (.tup [.int 14,.int 1,.str 25,e,e',.int 0]) W (@Bool.rec (fun _=>Int) 0 1 (x==y)) W₂:=.by 0 rfl fun q=>q _ _ h1 _ _ h2
theorem ev_and1(h1:Ev X D P e W x W₁)(hx:(x % 2==1)=true)(h2:Ev X D P e' W₁ y W₂):Ev X (D+1) P (.tup [.int 15,.int 1,e,e']) W y W₂:=.by 33554432 rfl fun q=>q _ _ h1 true hx _ _ h2
theorem ev_and0(h1:Ev X D P e W x W₁)(hx:(x % 2==1)=false):Ev X (D+1) P (.tup [.int 15,.int 1,e,e']) W 0 W₁:=.by 33554432 rfl fun q=>q _ _ h1 false hx
theorem ev_takes(h1:Ev X D P e W x W₁)(h2:Runs X D 781 [.ref 19,.int x,L] (rs P W₁) (.bool b,rs P W₂)):Ev X (D+1) P (.tup [.int 96,.int 1,e,L]) W (@Bool.rec (fun _=>Int) 0 1 b) W₂:=.by 0 rfl fun q=>q _ _ h1 _ _ h2
inductive Evs(X:Wd)(D:Nat)(P:RP):List V→RW→List Int→RW→Prop
 |nil {w}:Evs X D P [] w [] w
 |cons {a as w z w₁ zs w₂}:Ev X D P a w z w₁→Evs X D P as w₁ zs w₂→Evs X D P (a::as) w (z::zs) w₂
theorem Evs.elts{as:List V}{xs:List Int}(h:Evs X D P as W xs W₁):Elts X D false 5 none (.call 786 (.cons (.var 0) (.cons (.var 5) .nil))) [(0,.v (.ref 19))] as (rs P W) (xs.map .int) (rs P W₁):=by
 induction h with
 |nil=>exact .nil
 |cons h _ ih=>exact .keep rfl (r_call (l_cons (r_var rfl) (l_cons (r_var rfl) l_nil)) h) (fun h=>nomatch h) ih
theorem ev_call{as:List V}{xs:List Int}{m:Int}(h1:Evs X D P as W xs W₁)(h2:Runs X D 760 [.ref 19,.tup [.str 23,.int m,.flist (xs.map .int)]] (rs P W₁) (.none,rs P W₂)):Ev X (D+1) P (.tup [.int 8,.int k,.none,.tup [.int 16,.int m,.tup []],.tup as,.int 0]) W ((W₂.heard*3+m) % 4) W₂:=
 .by 0 rfl fun q=>q _ _ _ _ (.t _) (.cons rfl .nil) (.cons rfl .nil) h1.elts _ _ h2
end
noncomputable def rn(l:Nat)(v:Int)(W:RW):RW:={W with cs:=W.cs++[v],lids:=W.lids.set l (cref W.cs.length)}
noncomputable def rnAll(ls:List Nat):RW→RW:=@List.rec Nat (fun _=>RW→RW) id (fun l _ ih W=>ih (rn l 0 W)) ls
noncomputable def lidV(ls:List Nat):List V:=ls.map fun l=>.int (.ofNat l)
section
variable {X:Wd}{D:Nat}{P:RP}{W:RW}{v:V}{l:Nat}{k x:Int}
theorem begin_turn{ρ:Rho}(h:l < W.lids.length):OkB X (D+1) (.cons (.seti (.sub (.var 0) (.str 19)) (.var 2) (.call 739 (.cons (.var 0) (.cons (.int 0) .nil)))) .nil) [(0,.v (.ref 19)),(1,.v v),(2,.v (.int (.ofNat l)))] (rs P W) (.next,[(0,.v (.ref 19)),(1,.v v),(2,.v (.int (.ofNat l)))],rs P (rn l 0 W)):=
 .by 4 fun q=>q _ _ fresh_ok (Qs.mpr h)
theorem begin_rounds{ls:List Nat}:∀{W:RW}{ρ:Rho},(∀y,ρ.put 2 y=[(0,.v (.ref 19)),(1,.v v),(2,y)])→(∀l∈ls,l < W.lids.length)→∃ρ',Rounds X (D+1) (B1 2) (.cons (.seti (.sub (.var 0) (.str 19)) (.var 2) (.call 739 (.cons (.var 0) (.cons (.int 0) .nil)))) .nil) (lidV ls) ρ (rs P W) (.next,ρ',rs P (rnAll ls W)):=by
 induction ls with
 |nil=>exact fun _ _=>⟨_,.nil⟩
 |cons l ls ih=>
  intro W ρ hρ hl
  obtain⟨ρ',r⟩:=ih (W:=rn l 0 W) (ρ:=[(0,.v (.ref 19)),(1,.v v),(2,.v (.int (.ofNat l)))]) (fun _=>rfl) fun m hm=>by show m <(W.lids.set l _).length;rw[QP];exact hl m (Qg _ hm)
  exact⟨ρ',.go (hρ _).symm (begin_turn (ρ:=ρ) (hl l Qe)) .next r⟩
theorem begin_ok{ls:List Nat}(h:(lookA P.wi k).getD (.tup [])=.tup (lidV ls))(hl:∀l∈ls,l < W.lids.length):Runs X (D+2) 746 [.ref 19,.int k] (rs P W) (.none,rs P (rnAll ls W)):=by
 obtain⟨ρ',r⟩:=begin_rounds (X:=X) (D:=D) (P:=P) (v:=.int k) (W:=W) (ρ:=[(0,.v (.ref 19)),(1,.v (.int k))]) (fun _=>rfl) hl
 exact .by 48 rfl fun q=>q _ (h▸.t (lidV ls)) _ _ _ r
end
inductive PutL(X:Wd)(D:Nat)(P:RP)(l:Nat)(x:Int)(W:RW):RW→Prop
 |no:l=0→PutL X D P l x W W
 |yes {w}:l≠0→Runs X D 753 [.ref 19,.int (.ofNat l),.int x] (rs P W) (.none,rs P w)→PutL X D P l x W w
inductive WhenR(X:Wd)(D:Nat)(P:RP)(W:RW):V→Bool→RW→Prop
 |no:WhenR X D P W .none true W
 |yes {e y w}:isNv e=false→Ev X D P e W y w→WhenR X D P W e (y % 2==1) w
section
variable {X:Wd}{D:Nat}{P:RP}{W W₁ W₂:RW}{e:V}{l:Nat}{k x y:Int}{b:Bool}
theorem tk_const:Runs X (D+1) 781 [.ref 19,.int x,.tup [.int 1,.int y]] (rs P W) (.bool (x==y),rs P W):=.by 0 rfl fun q=>q
theorem tk_null:Runs X (D+1) 781 [.ref 19,.int x,.tup [.int 4]] (rs P W) (.bool (x==0),rs P W):=.by 0 rfl fun q=>q
theorem bq{i j:Int}(h:i≠j):(!(i==j))=true:=by rw[Zd.mpr h];rfl
theorem bz{l:Nat}(h:l≠0):((Int.ofNat l) != 0)=true:=bne_iff_ne.mpr fun e=>h (Int.ofNat.inj e)
theorem tk_no(h2:x≠2)(h1:x≠1∨k≠16):Runs X (D+1) 781 [.ref 19,.int x,.tup [.int 3,.int k,.int (.ofNat l),e]] (rs P W) (.bool false,rs P W):=by
 by_cases h:x=1
 ·subst h
  exact .by 8192 rfl fun q=>q true (bq (h1.resolve_left fun n=>n rfl))
 ·exact .by 640 rfl fun q=>q true (bq h2) true (bq h)
theorem tk_yes(h:x=2∨(x=1∧k=16))(hp:PutL X D P l x W W₁)(hw:WhenR X D P W₁ e b W₂):Runs X (D+1) 781 [.ref 19,.int x,.tup [.int 3,.int k,.int (.ofNat l),e]] (rs P W) (.bool b,rs P W₂):=by
 rcases h with rfl|⟨rfl,rfl⟩
 ·induction hp with
  |no h=>
   subst h
   induction hw with
   |no=>exact .by 0 rfl fun q=>q
   |yes h1 h2=>exact .by 32768 rfl fun q=>q false h1 _ _ h2
  |yes h r=>
   induction hw with
   |no=>exact .by 2048 rfl fun q=>q true (bz h) _ _ r
   |yes h1 h2=>exact .by 67584 rfl fun q=>q true (bz h) _ _ r false h1 _ _ h2
 ·induction hp with
  |no h=>
   subst h
   induction hw with
   |no=>exact .by 0 rfl fun q=>q
   |yes h1 h2=>exact .by 4194304 rfl fun q=>q false h1 _ _ h2
  |yes h r=>
   induction hw with
   |no=>exact .by 262144 rfl fun q=>q true (bz h) _ _ r
   |yes h1 h2=>exact .by 8650752 rfl fun q=>q true (bz h) _ _ r false h1 _ _ h2
end
inductive Bare:V→V→Prop
 |same {c l}:(c==93)=false→Bare (.tup (.int c::l)) (.tup (.int c::l))
 |cut {u}:Bare (.tup [.int 93,u]) u
noncomputable abbrev flow(k:Int)(v:V):V:=.tup [.int k,v]
noncomputable abbrev Xs(X:Wd)(D:Nat)(P:RP)(t:V)(W:RW)(f:V)(W':RW):Prop:=Runs X D 870 [.ref 19,t] (rs P W) (f,rs P W')
section
variable {X:Wd}{D:Nat}{P:RP}{W W₁ W₂:RW}{e a s u v:V}{l:List V}{c k x y:Int}{i:Nat}{σ:Sg}
theorem bare_ok(h:Bare s u):Runs X (D+1) 807 [s] σ (u,σ):=by
 induction h with
 |same h=>exact .by 4 rfl fun q=>q false h
 |cut=>exact .by 0 rfl fun q=>q
theorem x_stop(h:Bare s (.tup (.int c::l)))(hs:W.stop=true):Xs X (D+2) P s W (flow 5 .none) W:=.by 8 rfl fun q=>q _ _ (bare_ok h) true hs
theorem x_expr(h:Bare s (.tup [.int 1,e]))(hs:W.stop=false)(h1:Ev X (D+1) P e W x W₁):Xs X (D+2) P s W (flow 0 .none) W₁:=.by 8 rfl fun q=>q _ _ (bare_ok h) false hs _ _ h1
theorem x_if0(h:Bare s (.tup [.int 4,e,a,.none]))(hs:W.stop=false)(h1:Ev X (D+1) P e W x W₁)(hx:(x % 2==1)=false):Xs X (D+2) P s W (flow 0 .none) W₁:=.by 4194312 rfl fun q=>q _ _ (bare_ok h) false hs _ _ h1 false hx
theorem x_if1(h:Bare s (.tup [.int 4,e,a,u]))(hs:W.stop=false)(h1:Ev X (D+1) P e W x W₁)(hx:(x % 2==1)=true)(h2:Xs X (D+1) P a W₁ v W₂):Xs X (D+2) P s W v W₂:=.by 4194312 rfl fun q=>q _ _ (bare_ok h) false hs _ _ h1 true hx _ _ h2
theorem x_loc0(h:Bare s (.tup [.int 2,.int (.ofNat i),.none]))(hs:W.stop=false):Xs X (D+2) P s W (flow 0 .none) W:=.by 8 rfl fun q=>q _ _ (bare_ok h) false hs
theorem x_loc1(h:Bare s (.tup [.int 2,.int (.ofNat i),e]))(hs:W.stop=false)(n:isNv e=false)(h1:Ev X (D+1) P e W x W₁)(h2:Runs X (D+1) 753 [.ref 19,.int (.ofNat i),.int x] (rs P W₁) (.none,rs P W₂)):Xs X (D+2) P s W (flow 0 .none) W₂:=.by 65544 rfl fun q=>q _ _ (bare_ok h) false hs true (congrArg not n) _ _ h1 _ _ h2
theorem x_yield(h:Bare s (.tup [.int 16,e]))(hs:W.stop=false)(h1:Ev X (D+1) P e W x W₁)(h2:Runs X (D+1) 760 [.ref 19,.tup [.str 24,.int x]] (rs P W₁) (.none,rs P W₂)):Xs X (D+2) P s W (flow 0 .none) W₂:=.by 8 rfl fun q=>q _ _ (bare_ok h) false hs _ _ h1 _ _ h2
theorem x_brk(h:Bare s (.tup [.int 10]))(hs:W.stop=false):Xs X (D+2) P s W (flow 1 .none) W:=.by 8 rfl fun q=>q _ _ (bare_ok h) false hs
theorem x_cont(h:Bare s (.tup [.int 11]))(hs:W.stop=false):Xs X (D+2) P s W (flow 2 .none) W:=.by 8 rfl fun q=>q _ _ (bare_ok h) false hs
theorem x_empty(h:Bare s (.tup [.int 18]))(hs:W.stop=false):Xs X (D+2) P s W (flow 0 .none) W:=.by 8 rfl fun q=>q _ _ (bare_ok h) false hs
theorem x_ret0(h:Bare s (.tup [.int 12,.none]))(hs:W.stop=false):Xs X (D+2) P s W (flow 3 .none) W:=.by 8 rfl fun q=>q _ _ (bare_ok h) false hs
theorem x_ret1(h:Bare s (.tup [.int 12,e]))(hs:W.stop=false)(n:isNv e=false)(h1:Ev X (D+1) P e W x W₁):Xs X (D+2) P s W (flow 3 (.int x)) W₁:=.by 268435464 rfl fun q=>q _ _ (bare_ok h) false hs false n _ _ h1
theorem x_throw0(h:Bare s (.tup [.int 13,.none]))(hs:W.stop=false)(hl:W.caught.getLast?=some v):Xs X (D+2) P s W (flow 4 v) W:=.by 4294967304 rfl fun q=>q _ _ (bare_ok h) false hs _ (.last (.ls rfl) hl)
theorem x_throw1(h:Bare s (.tup [.int 13,e]))(hs:W.stop=false)(n:isNv e=false)(h1:Ev X (D+1) P e W x W₁):Xs X (D+2) P s W (flow 4 (.int x)) W₁:=.by 1073741832 rfl fun q=>q _ _ (bare_ok h) false hs false n _ _ h1
theorem x_aw(h:Bare s (.tup [.int 95,.int k,e]))(hs:W.stop=false)(h1:Ev X (D+1) P e W x W₁)(h2:Runs X (D+1) 774 [.ref 19,.int x] (rs P W₁) (.int y,rs P W₂))(hl:W₂.held.length < LIM):Xs X (D+2) P s W (flow 0 .none) {W₂ with held:=storedA W₂.held k (.int y)}:=.by 65544 rfl fun q=>q _ _ (bare_ok h) false hs _ _ h1 _ _ h2 (Qs.mpr hl)
theorem x_hold(h:Bare s (.tup [.int 94,.int k,e]))(hs:W.stop=false)(h1:Ev X (D+1) P e W x W₁)(hl:W₁.held.length < LIM):Xs X (D+2) P s W (flow 0 .none) {W₁ with held:=storedA W₁.held k (.int x)}:=.by 16392 rfl fun q=>q _ _ (bare_ok h) false hs _ _ h1 (Qs.mpr hl)
theorem x_block(h:Bare s (.tup (.int 3::l)))(hs:W.stop=false)(h1:Runs X (D+1) 814 [.ref 19,.tup (.int 3::l),.bool false] (rs P W) (v,rs P W₂)):Xs X (D+2) P s W v W₂:=.by 8 rfl fun q=>q _ _ (bare_ok h) false hs _ _ h1
theorem x_do(h:Bare s (.tup (.int 6::l)))(hs:W.stop=false)(h1:Runs X (D+1) 877 [.ref 19,.tup (.int 6::l)] (rs P W) (v,rs P W₂)):Xs X (D+2) P s W v W₂:=.by 8 rfl fun q=>q _ _ (bare_ok h) false hs _ _ h1
theorem x_for(h:Bare s (.tup (.int 7::l)))(hs:W.stop=false)(h1:Runs X (D+1) 877 [.ref 19,.tup (.int 7::l)] (rs P W) (v,rs P W₂)):Xs X (D+2) P s W v W₂:=.by 8 rfl fun q=>q _ _ (bare_ok h) false hs _ _ h1
theorem x_each(h:Bare s (.tup (.int 8::l)))(hs:W.stop=false)(h1:Runs X (D+1) 877 [.ref 19,.tup (.int 8::l)] (rs P W) (v,rs P W₂)):Xs X (D+2) P s W v W₂:=.by 8 rfl fun q=>q _ _ (bare_ok h) false hs _ _ h1
theorem x_switch(h:Bare s (.tup (.int 9::l)))(hs:W.stop=false)(h1:Runs X (D+1) 877 [.ref 19,.tup (.int 9::l)] (rs P W) (v,rs P W₂)):Xs X (D+2) P s W v W₂:=.by 8 rfl fun q=>q _ _ (bare_ok h) false hs _ _ h1
theorem x_try(h:Bare s (.tup (.int 14::l)))(hs:W.stop=false)(h1:Runs X (D+1) 877 [.ref 19,.tup (.int 14::l)] (rs P W) (v,rs P W₂)):Xs X (D+2) P s W v W₂:=.by 8 rfl fun q=>q _ _ (bare_ok h) false hs _ _ h1
theorem x_using(h:Bare s (.tup (.int 15::l)))(hs:W.stop=false)(h1:Runs X (D+1) 877 [.ref 19,.tup (.int 15::l)] (rs P W) (v,rs P W₂)):Xs X (D+2) P s W v W₂:=.by 8 rfl fun q=>q _ _ (bare_ok h) false hs _ _ h1
end
inductive Row(X:Wd)(D:Nat)(P:RP):List V→RW→V→RW→Prop
 |nil {w}:Row X D P [] w (flow 0 .none) w
 |go {s ss w v w₁ f w₂}:Xs X D P s w (flow 0 v) w₁→Row X D P ss w₁ f w₂→Row X D P (s::ss) w f w₂
 |out {s ss w k v w₁}:Xs X D P s w (flow k v) w₁→(k != 0)=true→Row X D P (s::ss) w (flow k v) w₁
inductive Tl:Rho→Prop
 |a:Tl []
 |b (y):Tl [(3,.v y)]
noncomputable abbrev rowB:Ss:=.cons (.asg 3 (.call 870 (.cons (.var 0) (.cons (.var 2) .nil)))) (.cons (.iff (.sub (.var 3) (.int 0)) (.cons (.ret (.var 3)) .nil) .nil) .nil)
section
variable {X:Wd}{D:Nat}{P:RP}{W W₁ W₂:RW}{s v L f:V}{ss:List V}{k:Int}{tl:Rho}
theorem row_turn(h:Tl tl)(h1:Xs X D P s W (flow 0 v) W₁):OkB X D rowB ((0,.v (.ref 19))::(1,.v L)::(2,.v s)::tl) (rs P W) (.next,[(0,.v (.ref 19)),(1,.v L),(2,.v s),(3,.v (flow 0 v))],rs P W₁):=by
 induction h with
 |a=>exact .by 0 fun q=>q _ _ h1
 |b=>exact .by 0 fun q=>q _ _ h1
theorem row_out(h:Tl tl)(h1:Xs X D P s W (flow k v) W₁)(hk:(k != 0)=true):OkB X D rowB ((0,.v (.ref 19))::(1,.v L)::(2,.v s)::tl) (rs P W) (.ret (flow k v),[(0,.v (.ref 19)),(1,.v L),(2,.v s),(3,.v (flow k v))],rs P W₁):=by
 induction h with
 |a=>exact .by 4 fun q=>q _ _ h1 true hk
 |b=>exact .by 4 fun q=>q _ _ h1 true hk
theorem row_rounds(h:Row X D P ss W f W₁):∀{ρ:Rho},(∀y,∃tl,Tl tl∧ρ.put 2 y=(0,.v (.ref 19))::(1,.v L)::(2,y)::tl)→∃ρ',Rounds X D (B1 2) rowB ss ρ (rs P W) (.next,ρ',rs P W₁)∧f=flow 0 .none∨Rounds X D (B1 2) rowB ss ρ (rs P W) (.ret f,ρ',rs P W₁):=by
 induction h with
 |nil=>exact fun{ρ} _=>⟨ρ,.inl ⟨.nil,rfl⟩⟩
 | @go s ss w v w₁ f w₂ h1 _ ih=>
  intro ρ hρ
  obtain⟨tl,ht,e⟩:=hρ (.v s)
  obtain⟨ρ',r⟩:=ih (ρ:=[(0,.v (.ref 19)),(1,.v L),(2,.v s),(3,.v (flow 0 v))]) fun y=>⟨_,.b _,rfl⟩
  exact⟨ρ',r.imp (fun r=>⟨.go e.symm (row_turn ht h1) .next r.1,r.2⟩) fun r=>.go e.symm (row_turn ht h1) .next r⟩
 | @out s ss w k v w₁ h1 hk=>
  intro ρ hρ
  obtain⟨tl,ht,e⟩:=hρ (.v s)
  exact⟨_,.inr (.out e.symm (row_out ht h1 hk) (.ret _))⟩
theorem row_ok(h:Row X D P ss W f W₁):Runs X (D+1) 800 [.ref 19,.tup ss] (rs P W) (f,rs P W₁):=by
 obtain⟨ρ',⟨r,rfl⟩|r⟩:=row_rounds (L:=.tup ss) h (ρ:=[(0,.v (.ref 19)),(1,.v (.tup ss))]) fun y=>⟨[],.a,rfl⟩
 ·exact .by 2 rfl fun q=>q _ _ _ r
 ·exact .by 2 rfl fun q=>q _ _ _ r
end
section
variable {X:Wd}{D:Nat}{P:RP}{W W₁ W₂:RW}{s v e a u f x:V}{l ss:List V}{c k n y:Int}{σ:Sg}
theorem end_brk:Runs X (D+1) 793 [flow 1 v] σ (flow 0 .none,σ):=.by 0 rfl fun q=>q
theorem end_no(h:(k==1)=false):Runs X (D+1) 793 [flow k v] σ (flow k v,σ):=.by 4 rfl fun q=>q false h
theorem x_if2(h:Bare s (.tup [.int 4,e,a,u]))(hs:W.stop=false)(h1:Ev X (D+1) P e W y W₁)(hy:(y % 2==1)=false)(n:isNv u=false)(h2:Xs X (D+1) P u W₁ f W₂):Xs X (D+2) P s W f W₂:=.by 37748744 rfl fun q=>q _ _ (bare_ok h) false hs _ _ h1 false hy false n _ _ h2
theorem blk_row(hb:Runs X D 746 [.ref 19,.int n] (rs P W) (.none,rs P W₁))(hl:(((ss.length:Nat):Int)==1)=false)(h:Runs X D 800 [.ref 19,.tup ss] (rs P W₁) (f,rs P W₂)):Runs X (D+1) 814 [.ref 19,.tup [.int 3,.tup ss,.int n],.bool false] (rs P W) (f,rs P W₂):=.by 64 rfl fun q=>q _ _ hb false hl _ _ h
theorem blk_one(hb:Runs X (D+1) 746 [.ref 19,.int n] (rs P W) (.none,rs P W₁))(hx:Bare x (.tup (.int c::l)))(hc:(c==6)=false)(h:Runs X (D+1) 800 [.ref 19,.tup [x]] (rs P W₁) (f,rs P W₂)):Runs X (D+2) 814 [.ref 19,.tup [.int 3,.tup [x],.int n],.bool false] (rs P W) (f,rs P W₂):=.by 2048 rfl fun q=>q _ _ hb _ _ (bare_ok hx) false hc _ _ h
theorem blk_do(hb:Runs X (D+1) 746 [.ref 19,.int n] (rs P W) (.none,rs P W₁))(hx:Bare x (.tup (.int 6::l)))(h:Runs X (D+1) 821 [.ref 19,.tup (.int 6::l),.int n] (rs P W₁) (f,rs P W₂)):Runs X (D+2) 814 [.ref 19,.tup [.int 3,.tup [x],.int n],.bool false] (rs P W) (f,rs P W₂):=.by 0 rfl fun q=>q _ _ hb _ _ (bare_ok hx) _ _ (bare_ok hx) _ _ h
end
section
variable {X:Wd}{D:Nat}{P:RP}{W W₁ W₂ W₃:RW}{v e b f g x:V}{c y z:Int}{l:List V}{i j:Nat}
theorem o_do(h:Runs X D 821 [.ref 19,.tup (.int 6::l),.int 0] (rs P W) (v,rs P W₁)):Runs X (D+1) 877 [.ref 19,.tup (.int 6::l)] (rs P W) (v,rs P W₁):=.by 0 rfl fun q=>q _ _ h
theorem o_for(h:Runs X D 828 [.ref 19,.tup (.int 7::l)] (rs P W) (v,rs P W₁)):Runs X (D+1) 877 [.ref 19,.tup (.int 7::l)] (rs P W) (v,rs P W₁):=.by 0 rfl fun q=>q _ _ h
theorem o_each(h:Runs X D 835 [.ref 19,.tup (.int 8::l)] (rs P W) (v,rs P W₁)):Runs X (D+1) 877 [.ref 19,.tup (.int 8::l)] (rs P W) (v,rs P W₁):=.by 0 rfl fun q=>q _ _ h
theorem o_switch(h:Runs X D 842 [.ref 19,.tup (.int 9::l)] (rs P W) (v,rs P W₁)):Runs X (D+1) 877 [.ref 19,.tup (.int 9::l)] (rs P W) (v,rs P W₁):=.by 0 rfl fun q=>q _ _ h
theorem o_using(h:Runs X D 849 [.ref 19,.tup (.int 15::l)] (rs P W) (v,rs P W₁)):Runs X (D+1) 877 [.ref 19,.tup (.int 15::l)] (rs P W) (v,rs P W₁):=.by 0 rfl fun q=>q _ _ h
theorem o_try(h:Runs X D 863 [.ref 19,.tup (.int 14::l)] (rs P W) (v,rs P W₁)):Runs X (D+1) 877 [.ref 19,.tup (.int 14::l)] (rs P W) (v,rs P W₁):=.by 0 rfl fun q=>q _ _ h
theorem us_0(h1:Ev X (D+1) P e W y W₁)(hj:j < W₁.lids.length)(h2:Xs X (D+1) P b (rn j y W₁) f W₂):Runs X (D+2) 849 [.ref 19,.tup [.int 15,.int (.ofNat j),e,.none,b]] (rs P W) (f,rs P W₂):=.by 16 rfl fun q=>q _ _ h1 _ _ fresh_ok (Qs.mpr hj) _ _ h2
theorem us_1(h1:Ev X (D+1) P e W y W₁)(hj:j < W₁.lids.length)(h2:Xs X (D+1) P b (rn j y W₁) f W₂)(n:isNv g=false)(hl:W₂.lids[j]?=some (cref i))(hc:W₂.cs[i]?=some c)(c0:c≠0)(h3:Ev X (D+1) P g W₂ z W₃):Runs X (D+2) 849 [.ref 19,.tup [.int 15,.int (.ofNat j),e,g,b]] (rs P W) (f,rs P W₃):=.by 22800 rfl fun q=>q _ _ h1 _ _ fresh_ok (Qs.mpr hj) _ _ h2 true (congrArg not n) _ (.nth (.ls rfl) hl) _ (.nth (.ls (cells_get hc)) rfl) true (bq c0) _ _ h3
theorem us_2(h1:Ev X (D+1) P e W y W₁)(hj:j < W₁.lids.length)(h2:Xs X (D+1) P b (rn j y W₁) f W₂)(n:isNv g=false)(hl:W₂.lids[j]?=some (cref i))(hc:W₂.cs[i]?=some c)(c0:c=0):Runs X (D+2) 849 [.ref 19,.tup [.int 15,.int (.ofNat j),e,g,b]] (rs P W) (f,rs P W₂):=.by 22800 rfl fun q=>q _ _ h1 _ _ fresh_ok (Qs.mpr hj) _ _ h2 true (congrArg not n) _ (.nth (.ls rfl) hl) _ (.nth (.ls (cells_get hc)) rfl) false (by rw[c0];rfl)
end
inductive EndR:V→V→Prop
 |brk {v}:EndR (flow 1 v) (flow 0 .none)
 |no {k v}:(k==1)=false→EndR (flow k v) (flow k v)
inductive Lw(X:Wd)(D:Nat)(P:RP)(t b:V):RW→V→RW→Prop
 |stop {w y w₁}:Ev X D P t w y w₁→(y % 2==1)=false→Lw X D P t b w (flow 0 .none) w₁
 |go {w y w₁ k v w₂ f w₃}:Ev X D P t w y w₁→(y % 2==1)=true→Xs X D P b w₁ (flow k v) w₂→k=0∨k=2→Lw X D P t b w₂ f w₃→Lw X D P t b w f w₃
 |out {w y w₁ k v w₂ f}:Ev X D P t w y w₁→(y % 2==1)=true→Xs X D P b w₁ (flow k v) w₂→(!((0:Int)==k||((2:Int)==k||false)))=true→EndR (flow k v) f→Lw X D P t b w f w₂
noncomputable abbrev whlC:E:=.cmp .eq (.bin .mod (.call 786 (.cons (.var 0) (.cons (.sub (.var 1) (.int 1)) .nil))) (.int 2)) (.int 1)
noncomputable abbrev whlB:Ss:=.cons (.asg 3 (.call 870 (.cons (.var 0) (.cons (.sub (.var 1) (.int 2)) .nil)))) (.cons (.iff (.cmp .notin (.sub (.var 3) (.int 0)) (.tup (.cons (.int 0) (.cons (.int 2) .nil)))) (.cons (.ret (.call 793 (.cons (.var 3) .nil))) .nil) .nil) .nil)
noncomputable abbrev whlR(e b:V)(tl:Rho):Rho:=(0,.v (.ref 19))::(1,.v (.tup [.int 5,e,b]))::(2,.v (.int 5))::tl
section
variable {X:Wd}{D:Nat}{P:RP}{W W₁ W₂:RW}{s e b f v u:V}{y k:Int}{tl:Rho}{σ:Sg}
theorem end_ok(h:EndR u v):Runs X (D+1) 793 [u] σ (v,σ):=by
 induction h with
 |brk=>exact end_brk
 |no h=>exact end_no h
theorem wh_c(h:Tl tl)(h1:Ev X D P e W y W₁):OkT X D whlC (whlR e b tl) (rs P W) (y % 2==1,whlR e b tl,rs P W₁):=by
 induction h with
 |a=>exact .by 0 fun q=>q _ _ h1
 |b=>exact .by 0 fun q=>q _ _ h1
theorem wh_go(h:Tl tl)(h1:Xs X D P b W (flow k v) W₁)(hk:k=0∨k=2):OkB X D whlB (whlR e b tl) (rs P W) (.next,whlR e b [(3,.v (flow k v))],rs P W₁):=by
 rcases hk with rfl|rfl<;>induction h<;>exact .by 0 fun q=>q _ _ h1
theorem wh_out(h:Tl tl)(h1:Xs X (D+1) P b W (flow k v) W₁)(hk:(!((0:Int)==k||((2:Int)==k||false)))=true)(h2:EndR (flow k v) f):OkB X (D+1) whlB (whlR e b tl) (rs P W) (.ret f,whlR e b [(3,.v (flow k v))],rs P W₁):=by
 induction h<;>exact .by 8 fun q=>q _ _ h1 true hk _ _ (end_ok h2)
theorem wh_all(h:Lw X (D+1) P e b W f W₁):∀{tl:Rho},Tl tl→∃n ρ',Whl X (D+1) whlC whlB n (whlR e b tl) (rs P W) (.next,ρ',rs P W₁)∧f=flow 0 .none∨Whl X (D+1) whlC whlB n (whlR e b tl) (rs P W) (.ret f,ρ',rs P W₁):=by
 induction h with
 |stop h1 hy=>exact fun ht=>⟨0,_,.inl ⟨.stop (hy▸wh_c ht h1),rfl⟩⟩
 |go h1 hy h2 hk _ ih=>
  intro tl ht
  obtain⟨n,ρ',r⟩:=ih (.b _)
  exact⟨n+1,ρ',r.imp (fun r=>⟨.go (hy▸wh_c ht h1) (wh_go ht h2 hk) .next r.1,r.2⟩) fun r=>.go (hy▸wh_c ht h1) (wh_go ht h2 hk) .next r⟩
 |out h1 hy h2 hk he=>exact fun ht=>⟨0,_,.inr (.out (hy▸wh_c ht h1) (wh_out ht h2 hk he) (.ret _))⟩
theorem x_while(h:Bare s (.tup [.int 5,e,b]))(hs:W.stop=false)(h1:Lw X (D+1) P e b W f W₁):Xs X (D+2) P s W f W₁:=by
 obtain⟨n,ρ',⟨r,rfl⟩|r⟩:=wh_all h1 .a
 ·exact .by 8 rfl fun q=>q _ _ (bare_ok h) false hs _ _ _ _ r
 ·exact .by 8 rfl fun q=>q _ _ (bare_ok h) false hs _ _ _ _ r
end
noncomputable abbrev Nx(k:Int):Prop:=k=0∨k=2
noncomputable abbrev Ox(k:Int):Prop:=(!((0:Int)==k||((2:Int)==k||false)))=true
noncomputable abbrev Bg(X:Wd)(D:Nat)(P:RP)(n:Int)(W W':RW):Prop:=Runs X D 746 [.ref 19,.int n] (rs P W) (.none,rs P W')
inductive Ld(X:Wd)(D:Nat)(P:RP)(b t:V)(n:Int):RW→V→RW→Prop
 |stop {w k v w₁ w₂ y w₃}:Xs X D P b w (flow k v) w₁→Nx k→Bg X D P n w₁ w₂→Ev X D P t w₂ y w₃→(y % 2==0)=true→Ld X D P b t n w (flow 0 .none) w₃
 |go {w k v w₁ w₂ y w₃ f w₄}:Xs X D P b w (flow k v) w₁→Nx k→Bg X D P n w₁ w₂→Ev X D P t w₂ y w₃→(y % 2==0)=false→Ld X D P b t n w₃ f w₄→Ld X D P b t n w f w₄
 |out {w k v w₁ f}:Xs X D P b w (flow k v) w₁→Ox k→EndR (flow k v) f→Ld X D P b t n w f w₁
inductive Lf(X:Wd)(D:Nat)(P:RP)(t b st:V):V→RW→V→RW→Prop
 |done {k v w}:(k==0)=false→Lf X D P t b st (flow k v) w (flow k v) w
 |stop {v w w₁}:WhenR X D P w t false w₁→Lf X D P t b st (flow 0 v) w (flow 0 v) w₁
 |go {v w w₁ k u w₂ m z w₃ f w₄}:WhenR X D P w t true w₁→Xs X D P b w₁ (flow k u) w₂→Nx k→Runs X D 800 [.ref 19,st] (rs P w₂) (flow m z,rs P w₃)→Lf X D P t b st (flow m z) w₃ f w₄→Lf X D P t b st (flow 0 v) w f w₄
 |out {v w w₁ k u w₂ f}:WhenR X D P w t true w₁→Xs X D P b w₁ (flow k u) w₂→Ox k→EndR (flow k u) f→Lf X D P t b st (flow 0 v) w f w₂
noncomputable abbrev doB:Ss:=(.cons (.asg 3 (.call 870 (.cons (.var 0) (.cons (.sub (.var 1) (.int 1)) .nil))))
  (.cons (.iff (.cmp .notin (.sub (.var 3) (.int 0)) (.tup (.cons (.int 0) (.cons (.int 2) .nil)))) (.cons (.ret (.call 793 (.cons (.var 3) .nil)))
  .nil) .nil)
  (.cons (.ex (.call 746 (.cons (.var 0) (.cons (.var 2) .nil))))
  (.cons (.iff (.cmp .eq (.bin .mod (.call 786 (.cons (.var 0) (.cons (.sub (.var 1) (.int 2)) .nil))) (.int 2)) (.int 0)) (.cons (.ret (.tup (.cons (.int 0) (.cons .none .nil))))
  .nil) .nil)
  .nil))))
noncomputable abbrev forC:E:=(.bop true (.cons (.cmp .eq (.sub (.var 2) (.int 0)) (.int 0)) (.cons (.bop false (.cons (.cmp .isN (.sub (.var 1) (.int 2)) .none) (.cons (.cmp .eq (.bin .mod (.call 786 (.cons (.var 0) (.cons (.sub (.var 1) (.int 2)) .nil))) (.int 2)) (.int 1)) .nil))) .nil)))
noncomputable abbrev forB:Ss:=(.cons (.asg 2 (.call 870 (.cons (.var 0) (.cons (.sub (.var 1) (.int 4)) .nil))))
  (.cons (.iff (.cmp .notin (.sub (.var 2) (.int 0)) (.tup (.cons (.int 0) (.cons (.int 2) .nil)))) (.cons (.ret (.call 793 (.cons (.var 2) .nil)))
  .nil) .nil)
  (.cons (.asg 2 (.call 800 (.cons (.var 0) (.cons (.sub (.var 1) (.int 3)) .nil))))
  .nil)))
noncomputable abbrev doR(b e:V)(n:Int)(tl:Rho):Rho:=(0,.v (.ref 19))::(1,.v (.tup [.int 6,b,e]))::(2,.v (.int n))::tl
noncomputable abbrev forR'(i e st b:V)(n:Int)(f:V):Rho:=[(0,.v (.ref 19)),(1,.v (.tup [.int 7,i,e,st,b,.int n])),(2,.v f)]
section
variable {X:Wd}{D:Nat}{P:RP}{W W₁ W₂ W₃:RW}{e b f v u i st:V}{y k n m:Int}{tl:Rho}{c:Bool}
theorem do_go(h:Tl tl)(h1:Xs X D P b W (flow k v) W₁)(hk:Nx k)(h2:Bg X D P n W₁ W₂)(h3:Ev X D P e W₂ y W₃)(hy:(y % 2==0)=c):OkB X D doB (doR b e n tl) (rs P W) (@Bool.rec (fun _=>Fl) .next (.ret (flow 0 .none)) c,doR b e n [(3,.v (flow k v))],rs P W₃):=by
 rcases hk with rfl|rfl<;>induction h<;>cases c
 all_goals first|exact .by 256 fun q=>q _ _ h1 _ _ h2 _ _ h3 true hy|exact .by 256 fun q=>q _ _ h1 _ _ h2 _ _ h3 false hy
theorem do_out(h:Tl tl)(h1:Xs X (D+1) P b W (flow k v) W₁)(hk:Ox k)(h2:EndR (flow k v) f):OkB X (D+1) doB (doR b e n tl) (rs P W) (.ret f,doR b e n [(3,.v (flow k v))],rs P W₁):=by
 induction h<;>exact .by 8 fun q=>q _ _ h1 true hk _ _ (end_ok h2)
theorem do_all(h:Ld X (D+1) P b e n W f W₁):∀{tl:Rho},Tl tl→∃m ρ',Whl X (D+1) (.bool true) doB m (doR b e n tl) (rs P W) (.ret f,ρ',rs P W₁):=by
 induction h with
 |stop h1 hk h2 h3 hy=>exact fun ht=>⟨0,_,.out (.by 0 fun q=>q) (do_go ht h1 hk h2 h3 hy) (.ret _)⟩
 |go h1 hk h2 h3 hy _ ih=>exact fun ht=>(ih (.b _)).elim fun m h=>h.elim fun ρ' r=>⟨m+1,ρ',.go (.by 0 fun q=>q) (do_go ht h1 hk h2 h3 hy) .next r⟩
 |out h1 hk he=>exact fun ht=>⟨0,_,.out (.by 0 fun q=>q) (do_out ht h1 hk he) (.ret _)⟩
theorem do_ok(h:Ld X (D+1) P b e n W f W₁):Runs X (D+2) 821 [.ref 19,.tup [.int 6,b,e],.int n] (rs P W) (f,rs P W₁):=by
 obtain⟨m,ρ',r⟩:=do_all h .a
 exact .by 0 rfl fun q=>q _ _ _ _ r
theorem for_c(h:WhenR X D P W e c W₁):OkT X D forC (forR' i e st b n (flow 0 v)) (rs P W) (c,forR' i e st b n (flow 0 v),rs P W₁):=by
 induction h with
 |no=>exact .by 0 fun q=>q
 | @yes e y w hn h1=>
  cases hy:y % 2==1 with
  |true=>exact .by 1056 fun q=>q false hn _ _ h1 true hy
  |false=>exact .by 1056 fun q=>q false hn _ _ h1 false hy
theorem for_go(h1:Xs X D P b W (flow k v) W₁)(hk:Nx k)(h2:Runs X D 800 [.ref 19,st] (rs P W₁) (u,rs P W₂)):OkB X D forB (forR' i e st b n f) (rs P W) (.next,forR' i e st b n u,rs P W₂):=by
 rcases hk with rfl|rfl<;>exact .by 0 fun q=>q _ _ h1 _ _ h2
theorem for_out(h1:Xs X (D+1) P b W (flow k v) W₁)(hk:Ox k)(h2:EndR (flow k v) u):OkB X (D+1) forB (forR' i e st b n f) (rs P W) (.ret u,forR' i e st b n (flow k v),rs P W₁):=.by 8 fun q=>q _ _ h1 true hk _ _ (end_ok h2)
theorem for_all(h:Lf X (D+1) P e b st u W f W₁):∃m fl ρ',Whl X (D+1) forC forB m (forR' i e st b n u) (rs P W) (fl,ρ',rs P W₁)∧((fl=.next∧ρ'=forR' i e st b n f)∨fl=.ret f):=by
 induction h with
 |done hk=>exact⟨0,_,_,.stop (.by 4 fun q=>q false hk),.inl ⟨rfl,rfl⟩⟩
 |stop h1=>exact⟨0,_,_,.stop (for_c h1),.inl ⟨rfl,rfl⟩⟩
 |go h1 h2 hk h3 _ ih=>obtain⟨m,fl,ρ',r,q⟩:=ih;exact⟨m+1,fl,ρ',.go (for_c h1) (for_go h2 hk h3) .next r,q⟩
 |out h1 h2 hk h3=>exact⟨0,_,_,.out (for_c h1) (for_out h2 hk h3) (.ret _),.inr rfl⟩
theorem for_ok(h1:Bg X (D+1) P n W W₁)(h2:Runs X (D+1) 800 [.ref 19,i] (rs P W₁) (u,rs P W₂))(h3:Lf X (D+1) P e b st u W₂ f W₃):Runs X (D+2) 828 [.ref 19,.tup [.int 7,i,e,st,b,.int n]] (rs P W) (f,rs P W₃):=by
 obtain⟨m,fl,ρ',r,⟨rfl,rfl⟩|rfl⟩:=for_all (i:=i) (n:=n) h3
 ·exact .by 0 rfl fun q=>q _ _ h1 _ _ h2 _ _ _ _ r
 ·exact .by 0 rfl fun q=>q _ _ h1 _ _ h2 _ _ _ _ r
end
noncomputable abbrev hol(c:Int)(W:RW):RW:={W with hole:=c}
inductive Le(X:Wd)(D:Nat)(P:RP)(j:Nat)(t b:V)(n:Int):List Int→RW→V→RW→Prop
 |nil {w}:Le X D P j t b n [] w (flow 0 .none) w
 |go {c cs w w₁ y w₂ k u w₃ f w₄}:Bg X D P n w w₁→Ev X D P t (hol c w₁) y w₂→j < w₂.lids.length→Xs X D P b (rn j y w₂) (flow k u) w₃→Nx k→Le X D P j t b n cs w₃ f w₄→Le X D P j t b n (c::cs) w f w₄
 |out {c cs w w₁ y w₂ k u w₃ f}:Bg X D P n w w₁→Ev X D P t (hol c w₁) y w₂→j < w₂.lids.length→Xs X D P b (rn j y w₂) (flow k u) w₃→Ox k→EndR (flow k u) f→Le X D P j t b n (c::cs) w f w₃
noncomputable abbrev eaB:Ss:=(.cons (.ex (.call 746 (.cons (.var 0) (.cons (.sub (.var 1) (.int 5)) .nil))))
  (.cons (.seti (.var 0) (.str 17) (.var 3))
  (.cons (.seti (.sub (.var 0) (.str 19)) (.sub (.var 1) (.int 1)) (.call 739 (.cons (.var 0) (.cons (.call 786 (.cons (.var 0) (.cons (.sub (.sub (.var 1) (.int 4)) (.int 1)) .nil))) .nil))))
  (.cons (.asg 4 (.call 870 (.cons (.var 0) (.cons (.sub (.var 1) (.int 3)) .nil))))
  (.cons (.iff (.cmp .notin (.sub (.var 4) (.int 0)) (.tup (.cons (.int 0) (.cons (.int 2) .nil)))) (.cons (.ret (.call 793 (.cons (.var 4) .nil)))
  .nil) .nil)
  .nil)))))
inductive Tl4:Rho→Prop
 |a:Tl4 []
 |b (y):Tl4 [(4,.v y)]
noncomputable abbrev eaS(j:Nat)(e b e2 t:V)(n:Int):V:=.tup [.int 8,.int (.ofNat j),e,b,.tup [e2,t],.int n]
noncomputable abbrev eaR(j:Nat)(e b e2 t:V)(n:Int)(m c:V)(tl:Rho):Rho:=(0,.v (.ref 19))::(1,.v (eaS j e b e2 t n))::(2,.v m)::(3,.v c)::tl
section
variable {X:Wd}{D:Nat}{P:RP}{W W₁ W₂ W₃:RW}{e b f v u t e2 m:V}{y k n c:Int}{tl:Rho}{j:Nat}
theorem ea_go(h:Tl4 tl)(h1:Bg X (D+1) P n W W₁)(h2:Ev X (D+1) P t (hol c W₁) y W₂)(hj:j < W₂.lids.length)(h3:Xs X (D+1) P b (rn j y W₂) (flow k u) W₃)(hk:Nx k):OkB X (D+1) eaB (eaR j e b e2 t n m (.int c) tl) (rs P W) (.next,eaR j e b e2 t n m (.int c) [(4,.v (flow k u))],rs P W₃):=by
 rcases hk with rfl|rfl<;>induction h<;>exact .by 256 fun q=>q _ _ h1 _ _ h2 _ _ fresh_ok (Qs.mpr hj) _ _ h3
theorem ea_out(h:Tl4 tl)(h1:Bg X (D+1) P n W W₁)(h2:Ev X (D+1) P t (hol c W₁) y W₂)(hj:j < W₂.lids.length)(h3:Xs X (D+1) P b (rn j y W₂) (flow k u) W₃)(hk:Ox k)(he:EndR (flow k u) f):OkB X (D+1) eaB (eaR j e b e2 t n m (.int c) tl) (rs P W) (.ret f,eaR j e b e2 t n m (.int c) [(4,.v (flow k u))],rs P W₃):=by
 induction h<;>exact .by 4352 fun q=>q _ _ h1 _ _ h2 _ _ fresh_ok (Qs.mpr hj) _ _ h3 true hk _ _ (end_ok he)
theorem ea_all{cs:List Int}(h:Le X (D+1) P j t b n cs W f W₁):∀{ρ:Rho},(∀y,∃tl,Tl4 tl∧ρ.put 3 (.v y)=eaR j e b e2 t n m y tl)→∃ρ' fl,Rounds X (D+1) (B1 3) eaB (cs.map .int) ρ (rs P W) (fl,ρ',rs P W₁)∧((fl=.next∧f=flow 0 .none)∨fl=.ret f):=by
 induction h with
 |nil=>exact fun{ρ} _=>⟨ρ,_,.nil,.inl ⟨rfl,rfl⟩⟩
 | @go c cs w w₁ y w₂ k u w₃ f w₄ h1 h2 hj h3 hk _ ih=>
  intro ρ hρ
  obtain⟨tl,ht,e1⟩:=hρ (.int c)
  obtain⟨ρ',fl,r,q⟩:=ih (ρ:=eaR j e b e2 t n m (.int c) [(4,.v (flow k u))]) fun y=>⟨_,.b _,rfl⟩
  exact⟨ρ',fl,.go e1.symm (ea_go ht h1 h2 hj h3 hk) .next r,q⟩
 | @out c cs w w₁ y w₂ k u w₃ f h1 h2 hj h3 hk he=>
  intro ρ hρ
  obtain⟨tl,ht,e1⟩:=hρ (.int c)
  exact⟨_,_,.out e1.symm (ea_out ht h1 h2 hj h3 hk he) (.ret _),.inr rfl⟩
theorem each_0(h1:Ev X (D+1) P e W 0 W₁):Runs X (D+2) 835 [.ref 19,eaS j e b e2 t n] (rs P W) (flow 4 (.int 0),rs P W₁):=.by 0 rfl fun q=>q _ _ h1
theorem each_1(h1:Ev X (D+1) P e W 1 W₁)(h2:Le X (D+1) P j t b n [2] W₁ f W₂):Runs X (D+2) 835 [.ref 19,eaS j e b e2 t n] (rs P W) (f,rs P W₂):=by
 obtain⟨ρ',fl,r,h⟩:=ea_all (e:=e) (e2:=e2) (m:=.int 1) h2 (ρ:=[(0,.v (.ref 19)),(1,.v (eaS j e b e2 t n)),(2,.v (.int 1))]) fun y=>⟨[],.a,rfl⟩
 obtain⟨rfl,rfl⟩|rfl:=h<;>exact .by 128 rfl fun q=>q _ _ h1 _ _ _ r
theorem each_2(h1:Ev X (D+1) P e W 2 W₁)(h2:Le X (D+1) P j t b n [1,3] W₁ f W₂):Runs X (D+2) 835 [.ref 19,eaS j e b e2 t n] (rs P W) (f,rs P W₂):=by
 obtain⟨ρ',fl,r,h⟩:=ea_all (e:=e) (e2:=e2) (m:=.int 2) h2 (ρ:=[(0,.v (.ref 19)),(1,.v (eaS j e b e2 t n)),(2,.v (.int 2))]) fun y=>⟨[],.a,rfl⟩
 obtain⟨rfl,rfl⟩|rfl:=h<;>exact .by 128 rfl fun q=>q _ _ h1 _ _ _ r
theorem each_3(h1:Ev X (D+1) P e W 3 W₁)(h2:Le X (D+1) P j t b n [3,0,2] W₁ f W₂):Runs X (D+2) 835 [.ref 19,eaS j e b e2 t n] (rs P W) (f,rs P W₂):=by
 obtain⟨ρ',fl,r,h⟩:=ea_all (e:=e) (e2:=e2) (m:=.int 3) h2 (ρ:=[(0,.v (.ref 19)),(1,.v (eaS j e b e2 t n)),(2,.v (.int 3))]) fun y=>⟨[],.a,rfl⟩
 obtain⟨rfl,rfl⟩|rfl:=h<;>exact .by 128 rfl fun q=>q _ _ h1 _ _ _ r
end
noncomputable abbrev Tk(X:Wd)(D:Nat)(P:RP)(x:Int)(L:V)(W:RW)(b:Bool)(W':RW):Prop:=Runs X D 781 [.ref 19,.int x,L] (rs P W) (.bool b,rs P W')
noncomputable abbrev Rw(X:Wd)(D:Nat)(P:RP)(b:V)(W:RW)(f:V)(W':RW):Prop:=Runs X D 800 [.ref 19,b] (rs P W) (f,rs P W')
inductive Lp(X:Wd)(D:Nat)(P:RP)(x:Int):List V→V→RW→V→RW→Prop
 |nil {r w f w' g}:Rw X D P r w f w'→EndR f g→Lp X D P x [] r w g w'
 |miss {c l b ss r w w₁ g w'}:(c==2)=false→Tk X D P x (.tup (.int c::l)) w false w₁→Lp X D P x ss r w₁ g w'→Lp X D P x (.tup [.tup [.tup (.int c::l)],b]::ss) r w g w'
 |missd {c l b ss r w w₁ g w'}:(c==2)=false→Tk X D P x (.tup (.int c::l)) w false w₁→Lp X D P x ss b w₁ g w'→Lp X D P x (.tup [.tup [.tup (.int c::l),.tup [.int 2]],b]::ss) r w g w'
 |hit {c l dl b ss r w w₁ f w' g}:(c==2)=false→Tk X D P x (.tup (.int c::l)) w true w₁→Rw X D P b w₁ f w'→EndR f g→Lp X D P x (.tup [.tup (.tup (.int c::l)::dl),b]::ss) r w g w'
noncomputable abbrev piB:Ss:=(.cons (.for1 6 (.var 4) (.cons (.iff (.cmp .eq (.sub (.var 6) (.int 0)) (.int 2)) (.cons (.asg 3 (.var 5))
  .nil) (.cons (.iff (.call 781 (.cons (.var 0) (.cons (.var 2) (.cons (.var 6) .nil)))) (.cons (.ret (.call 793 (.cons (.call 800 (.cons (.var 0) (.cons (.var 5) .nil))) .nil)))
  .nil) .nil)
  .nil))
  .nil))
  .nil)
inductive TlP:Rho→Prop
 |a:TlP []
 |b (y):TlP [(6,.v y)]
noncomputable abbrev piR(s:V)(x:Int)(r a b:V)(tl:Rho):Rho:=(0,.v (.ref 19))::(1,.v s)::(2,.v (.int x))::(3,.v r)::(4,.v a)::(5,.v b)::tl
inductive PiT:Rho→Prop
 |a:PiT []
 |b (a b) {tl}:TlP tl→PiT ((4,.v a)::(5,.v b)::tl)
noncomputable abbrev piR0(s:V)(x:Int)(r:V)(tl:Rho):Rho:=(0,.v (.ref 19))::(1,.v s)::(2,.v (.int x))::(3,.v r)::tl
section
variable {X:Wd}{D:Nat}{P:RP}{W W₁ W₂ W₃:RW}{e b f v u r s:V}{k c y:Int}{tl:Rho}{j:Nat}{l dl ss:List V}{ρ:Rho}
theorem pis(h:PiT tl)(a:V):∃tl',TlP tl'∧B2 4 5 (.tup [a,b]) (piR0 s y r tl) (piR s y r a b tl'):=by
 induction h with
 |a=>exact⟨_,.a,a,b,rfl,rfl⟩
 |b _ _ h=>
  induction h with
  |a=>exact⟨_,.a,a,b,rfl,rfl⟩
  |b=>exact⟨_,.b _,a,b,rfl,rfl⟩
theorem pi_miss(h:TlP tl)(hc:(c==2)=false)(h1:Tk X D P y (.tup (.int c::l)) W false W₁):∃tl',TlP tl'∧OkB X D piB (piR s y r (.tup [.tup (.int c::l)]) b tl) (rs P W) (.next,piR s y r (.tup [.tup (.int c::l)]) b tl',rs P W₁):=by
 induction h with
 |a=>exact⟨_,.b _,.by 16 fun q=>q false hc _ _ h1⟩
 |b=>exact⟨_,.b _,.by 16 fun q=>q false hc _ _ h1⟩
theorem pi_missd(h:TlP tl)(hc:(c==2)=false)(h1:Tk X D P y (.tup (.int c::l)) W false W₁):∃tl',TlP tl'∧OkB X D piB (piR s y r (.tup [.tup (.int c::l),.tup [.int 2]]) b tl) (rs P W) (.next,piR s y b (.tup [.tup (.int c::l),.tup [.int 2]]) b tl',rs P W₁):=by
 induction h with
 |a=>exact⟨_,.b _,.by 16 fun q=>q false hc _ _ h1⟩
 |b=>exact⟨_,.b _,.by 16 fun q=>q false hc _ _ h1⟩
theorem pi_hit(h:TlP tl)(hc:(c==2)=false)(h1:Tk X (D+1) P y (.tup (.int c::l)) W true W₁)(h2:Rw X (D+1) P b W₁ f W₂)(h3:EndR f v):∃ρ',OkB X (D+1) piB (piR s y r (.tup (.tup (.int c::l)::dl)) b tl) (rs P W) (.ret v,ρ',rs P W₂):=by
 induction h with
 |a=>exact⟨_,.by 16 fun q=>q false hc _ _ h1 _ _ h2 _ _ (end_ok h3)⟩
 |b=>exact⟨_,.by 16 fun q=>q false hc _ _ h1 _ _ h2 _ _ (end_ok h3)⟩
theorem pi_all(h:Lp X (D+1) P y ss r W v W₁):∀{tl:Rho},PiT tl→(∃tl' W₂ r' f,Rounds X (D+1) (B2 4 5) piB ss (piR0 s y r tl) (rs P W) (.next,piR0 s y r' tl',rs P W₂)∧Rw X (D+1) P r' W₂ f W₁∧EndR f v)∨∃ρ',Rounds X (D+1) (B2 4 5) piB ss (piR0 s y r tl) (rs P W) (.ret v,ρ',rs P W₁):=by
 induction h with
 |nil h1 h2=>exact fun _=>.inl ⟨_,_,_,_,.nil,h1,h2⟩
 |miss hc h1 _ ih=>
  intro tl ht
  obtain⟨tl',h2,h3⟩:=pis (b:=_) ht _
  obtain⟨tl₂,h4,h5⟩:=pi_miss h2 hc h1
  exact(ih (.b _ _ h4)).imp (fun⟨a,b,c,d,q,z⟩=>⟨a,b,c,d,.go h3 h5 .next q,z⟩) fun⟨a,q⟩=>⟨a,.go h3 h5 .next q⟩
 |missd hc h1 _ ih=>
  intro tl ht
  obtain⟨tl',h2,h3⟩:=pis (b:=_) ht _
  obtain⟨tl₂,h4,h5⟩:=pi_missd h2 hc h1
  exact(ih (.b _ _ h4)).imp (fun⟨a,b,c,d,q,z⟩=>⟨a,b,c,d,.go h3 h5 .next q,z⟩) fun⟨a,q⟩=>⟨a,.go h3 h5 .next q⟩
 |hit hc h1 h2 h3=>
  intro tl ht
  obtain⟨tl',h4,h5⟩:=pis (b:=_) ht _
  obtain⟨ρ',h6⟩:=pi_hit h4 hc h1 h2 h3
  exact .inr ⟨_,.out h5 h6 (.ret _)⟩
theorem pick_0(h1:Ev X (D+1) P e W y W₁)(h2:Lp X (D+1) P y ss (.tup []) W₁ v W₂):Runs X (D+2) 842 [.ref 19,.tup [.int 9,e,.tup ss,.int 0]] (rs P W) (v,rs P W₂):=by
 obtain⟨tl,W₃,r',f,r,h3,h4⟩|⟨ρ',r⟩:=pi_all (s:=.tup [.int 9,e,.tup ss,.int 0]) h2 .a
 ·exact .by 64 rfl fun q=>q _ _ h1 _ _ _ r _ _ h3 _ _ (end_ok h4)
 ·exact .by 64 rfl fun q=>q _ _ h1 _ _ _ r
theorem pick_1(h1:Ev X (D+1) P e W y W₁)(hz:j≠0)(hj:j < W₁.lids.length)(h2:Lp X (D+1) P y ss (.tup []) (rn j y W₁) v W₂):Runs X (D+2) 842 [.ref 19,.tup [.int 9,e,.tup ss,.int (.ofNat j)]] (rs P W) (v,rs P W₂):=by
 obtain⟨tl,W₃,r',f,r,h3,h4⟩|⟨ρ',r⟩:=pi_all (s:=.tup [.int 9,e,.tup ss,.int (.ofNat j)]) h2 .a
 ·exact .by 1160 rfl fun q=>q _ _ h1 true (bz hz) _ _ fresh_ok (Qs.mpr hj) _ _ _ r _ _ h3 _ _ (end_ok h4)
 ·exact .by 1160 rfl fun q=>q _ _ h1 true (bz hz) _ _ fresh_ok (Qs.mpr hj) _ _ _ r
end
noncomputable abbrev caC:E:=.bop false (.cons (.bop true (.cons (.cmp .eq (.var 3) (.sub (.var 0) (.str 8))) (.cons (.cmp .notin (.var 2) (.tup (.cons (.int 1) (.cons (.int 2) .nil)))) .nil))) (.cons (.bop true (.cons (.cmp .eq (.var 3) (.sub (.var 0) (.str 9))) (.cons (.cmp .ne (.var 2) (.int 2)) .nil))) .nil))
noncomputable abbrev caB:Ss:=.cons (.ex (.call 746 (.cons (.var 0) (.cons (.sub (.call 807 (.cons (.var 6) .nil)) (.int 2)) .nil))))
  (.cons (.iff (.var 4) (.cons (.seti (.sub (.var 0) (.str 19)) (.var 4) (.call 739 (.cons (.var 0) (.cons (.var 2) .nil))))
  .nil) .nil)
  (.cons (.ret (.bop false (.cons (.cmp .isN (.var 5) .none) (.cons (.cmp .eq (.bin .mod (.call 786 (.cons (.var 0) (.cons (.var 5) .nil))) (.int 2)) (.int 1)) .nil))))
  .nil))
noncomputable abbrev caR(y k:Int)(l u b:V):Rho:=[(0,.v (.ref 19)),(1,.v (.tup [.int k,l,u,b])),(2,.v (.int y)),(3,.v (.int k)),(4,.v l),(5,.v u),(6,.v b)]
inductive Ct(y:Int):Int→Bool→Prop
 |n16:(!((1:Int)==y||((2:Int)==y||false)))=true→Ct y 16 true
 |y16:(!((1:Int)==y||((2:Int)==y||false)))=false→Ct y 16 false
 |n17:(!(y==2))=true→Ct y 17 true
 |y17:(!(y==2))=false→Ct y 17 false
 |all:Ct y (-1) false
inductive PutF(y:Int):Nat→RW→RW→Prop
 |no {w}:PutF y 0 w w
 |yes {l w}:l≠0→l < w.lids.length→PutF y l w (rn l y w)
inductive Hn:V→Int→V→Prop
 |mk {t b n}:Bare t (.tup [.int 3,b,.int n])→Hn t n (.tup [.int 3,b,.int n])
inductive Ca(X:Wd)(D:Nat)(P:RP)(y k:Int)(l:Nat)(u t:V)(w:RW):Bool→RW→Prop
 |no:Ct y k true→Ca X D P y k l u t w false w
 |yes {n b w₁ w₂ c w₃}:Ct y k false→Hn t n b→Bg X D P n w w₁→PutF y l w₁ w₂→WhenR X D P w₂ u c w₃→Ca X D P y k l u t w c w₃
inductive Hs(X:Wd)(D:Nat)(P:RP)(x:Int):List V→RW→V→RW→Prop
 |nil {w}:Hs X D P x [] w (flow 4 (.int x)) w
 |miss {k l u t ss w w₁ f w₂}:Ca X D P x k l u t w false w₁→Hs X D P x ss w₁ f w₂→Hs X D P x (.tup [.int k,.int (.ofNat l),u,t]::ss) w f w₂
 |hit {k l u t ss w w₁ b n f w₂}:Ca X D P x k l u t w true w₁→w₁.caught.length < LIM→Hn t n b→Runs X (D+1) 814 [.ref 19,b,.bool true] (rs P {w₁ with caught:=w₁.caught++[.int x]}) (f,rs P w₂)→0 < w₂.caught.length→Hs X D P x (.tup [.int k,.int (.ofNat l),u,t]::ss) w f {w₂ with caught:=w₂.caught.dropLast}
inductive FinR(X:Wd)(D:Nat)(P:RP):V→V→RW→V→RW→Prop
 |none {f w}:FinR X D P .none f w f w
 |pass {r f w v w₁}:isNv r=false→Xs X D P r w (flow 0 v) w₁→FinR X D P r f w f w₁
 |last {r f w m g w₁}:isNv r=false→Xs X D P r w (flow m g) w₁→(m != 0)=true→FinR X D P r f w (flow m g) w₁
noncomputable abbrev trB:Ss:=(.cons (.iff (.call 856 (.cons (.var 0) (.cons (.var 3) (.cons (.sub (.var 2) (.int 1)) .nil)))) (.cons (.appr (.sub (.var 0) (.str 18)) (.sub (.var 2) (.int 1)))
  (.cons (.asg 2 (.call 814 (.cons (.var 0) (.cons (.call 807 (.cons (.sub (.var 3) (.int 3)) .nil)) (.cons (.bool true) .nil)))))
  (.cons (.popr (.sub (.var 0) (.str 18)))
  (.cons .brk
  .nil)))) .nil)
  .nil)
noncomputable abbrev trR(s f:V)(tl:Rho):Rho:=(0,.v (.ref 19))::(1,.v s)::(2,.v f)::tl
section
variable {X:Wd}{D:Nat}{P:RP}{W W₁ W₂ W₃:RW}{e b f v u r s t:V}{k y n:Int}{l:Nat}{c:Bool}
theorem ca_c(h:Ct y k c):OkT X D caC (caR y k e u b) (rs P W) (c,caR y k e u b,rs P W):=by
 induction h with
 |n16 h=>exact .by 16 fun q=>q true h
 |y16 h=>exact .by 16 fun q=>q false h
 |n17 h=>exact .by 256 fun q=>q true h
 |y17 h=>exact .by 256 fun q=>q false h
 |all=>exact .by 0 fun q=>q
theorem ca_b(h:Hn t n b)(h1:Bg X (D+1) P n W W₁)(h2:PutF y l W₁ W₂)(h3:WhenR X (D+1) P W₂ u c W₃):OkB X (D+1) caB (caR y k (.int (.ofNat l)) u t) (rs P W) (.ret (.bool c),caR y k (.int (.ofNat l)) u t,rs P W₃):=by
 obtain⟨h⟩:=h
 induction h2 with
 |no=>
  induction h3 with
  |no=>exact .by 0 fun q=>q _ _ (bare_ok h) _ _ h1
  |yes n h3=>exact .by 32 fun q=>q _ _ (bare_ok h) _ _ h1 false n _ _ h3
 |yes hz hj=>
  induction h3 with
  |no=>exact .by 36 fun q=>q _ _ (bare_ok h) _ _ h1 true (bz hz) _ _ fresh_ok (Qs.mpr hj)
  |yes n h3=>exact .by 292 fun q=>q _ _ (bare_ok h) _ _ h1 true (bz hz) _ _ fresh_ok (Qs.mpr hj) false n _ _ h3
theorem ca_ok(h:Ca X (D+1) P y k l u t W c W₁):Runs X (D+2) 856 [.ref 19,.tup [.int k,.int (.ofNat l),u,t],.int y] (rs P W) (.bool c,rs P W₁):=by
 have h0:=s_unp (X:=X) (d:=D+1) (ρ:=argRho 0 [.ref 19,.tup [.int k,.int (.ofNat l),u,t],.int y]) (σ:=rs P W) (is:=[3,4,5,6]) (r_var (i:=1) rfl) rfl
 induction h with
 |no h=>exact r_fn (F:=bQ80) rfl rfl rfl (b_cons h0 (b_out (s_iff (v:=true) (ca_c h) (b_out (s_ret (r_bool (b:=false))) (.ret _))) (.ret _))) rfl
 |yes h hh h1 h2 h3=>exact r_fn (F:=bQ80) rfl rfl rfl (b_cons h0 (b_cons (s_iff (v:=false) (ca_c h) b_nil) (ca_b hh h1 h2 h3))) rfl
theorem tr_miss(h:Ca X (D+1) P y k l u t W false W₁):OkB X (D+2) trB (trR s (flow 4 (.int y)) [(3,.v (.tup [.int k,.int (.ofNat l),u,t]))]) (rs P W) (.next,trR s (flow 4 (.int y)) [(3,.v (.tup [.int k,.int (.ofNat l),u,t]))],rs P W₁):=.by 0 fun q=>q _ _ (ca_ok h)
theorem tr_hit(h:Ca X (D+1) P y k l u t W true W₁)(hc:W₁.caught.length < LIM)(h1:Hn t n b)(h2:Runs X (D+2) 814 [.ref 19,b,.bool true] (rs P {W₁ with caught:=W₁.caught++[.int y]}) (f,rs P W₂))(h3:0 < W₂.caught.length):OkB X (D+2) trB (trR s (flow 4 (.int y)) [(3,.v (.tup [.int k,.int (.ofNat l),u,t]))]) (rs P W) (.brk,trR s f [(3,.v (.tup [.int k,.int (.ofNat l),u,t]))],rs P {W₂ with caught:=W₂.caught.dropLast}):=by
 obtain⟨h1⟩:=h1
 exact .by 2176 fun q=>q _ _ (ca_ok h) (Qs.mpr hc) _ _ (bare_ok h1) _ _ h2 (Qs.mpr h3)
theorem tr_all{ss:List V}(h:Hs X (D+1) P y ss W f W₁):∀{tl:Rho},Tl tl→∃tl',Tl tl'∧Rounds X (D+2) (B1 3) trB ss (trR s (flow 4 (.int y)) tl) (rs P W) (.next,trR s f tl',rs P W₁):=by
 induction h with
 |nil=>exact fun ht=>⟨_,ht,.nil⟩
 |miss h _ ih=>
  intro tl ht
  obtain⟨tl',h1,h2⟩:=ih (.b _)
  exact⟨tl',h1,.go (by induction ht<;>rfl) (tr_miss h) .next h2⟩
 |hit h hc h1 h2 h3=>exact fun ht=>⟨_,.b _,.out (by induction ht<;>rfl) (tr_hit h hc h1 h2 h3) .brk⟩
theorem try_no(h:Xs X D P b W (flow k v) W₁)(hk:(k==4)=false)(h1:FinR X D P r (flow k v) W₁ f W₂){ss:List V}:Runs X (D+1) 863 [.ref 19,.tup [.int 14,b,.tup ss,r]] (rs P W) (f,rs P W₂):=by
 cases h1 with
 |none=>exact .by 8 rfl fun q=>q _ _ h false hk
 |pass n h1=>exact .by 72 rfl fun q=>q _ _ h false hk true (congrArg not n) _ _ h1
 |last n h1 hm=>exact .by 1096 rfl fun q=>q _ _ h false hk true (congrArg not n) _ _ h1 true hm
theorem try_ok{ss:List V}(h:Xs X (D+2) P b W (flow 4 (.int y)) W₁)(h1:Hs X (D+1) P y ss W₁ u W₂)(h2:FinR X (D+2) P r u W₂ f W₃):Runs X (D+3) 863 [.ref 19,.tup [.int 14,b,.tup ss,r]] (rs P W) (f,rs P W₃):=by
 obtain⟨tl,ht,h3⟩:=tr_all (s:=.tup [.int 14,b,.tup ss,r]) h1 .a
 induction ht<;>induction h2 with
 |none=>exact .by 64 rfl fun q=>q _ _ h _ _ _ h3
 |pass n h4=>exact .by 576 rfl fun q=>q _ _ h _ _ _ h3 true (congrArg not n) _ _ h4
 |last n h4 hm=>exact .by 8768 rfl fun q=>q _ _ h _ _ _ h3 true (congrArg not n) _ _ h4 true hm
end
section
variable {k m:Int}{v u:V}{kvs l:List (Int × V)}
theorem sto_in:∀{kvs:List (Int × V)},kvs.any (fun kv=>kv.1=k)=true→lookA (kvs.map fun kv=>if kv.1=k then(kv.1,v)else kv) k=some v:=by
 intro kvs
 induction kvs with
 |nil=>exact fun h=>nomatch h
 |cons p l ih=>
  intro h
  by_cases e:p.1=k
  ·show lookA ((if p.1=k then(p.1,v)else p)::_) k=_
   rw[if_pos e];exact if_pos e
  ·show lookA ((if p.1=k then(p.1,v)else p)::_) k=_
   rw[if_neg e]
   exact(if_neg e).trans (ih (by rw[List.any_cons,decide_eq_false e]at h;exact h))
theorem sto_out:∀{kvs:List (Int × V)},kvs.any (fun kv=>kv.1=k)=false→lookA (kvs++[(k,v)]) k=some v:=by
 intro kvs
 induction kvs with
 |nil=>exact fun _=>if_pos rfl
 |cons p l ih=>
  intro h
  by_cases e:p.1=k
  ·rw[List.any_cons,QZ e]at h;exact nomatch h
  ·exact(if_neg e).trans (ih (by rw[List.any_cons,decide_eq_false e]at h;exact h))
theorem sto_self:lookA (storedA kvs k v) k=some v:=by
 unfold storedA
 cases h:kvs.any fun kv=>decide (kv.1=k)with
 |true=>exact sto_in h
 |false=>exact sto_out h
theorem sto_ne(hm:m≠k):lookA (storedA kvs k v) m=lookA kvs m:=by
 have h1:lookA (kvs.map fun kv=>if kv.1=k then(kv.1,v)else kv) m=lookA kvs m:=by
  induction kvs with
  |nil=>rfl
  |cons p l ih=>
   show lookA ((if p.1=k then(p.1,v)else p)::_) m=_
   by_cases q:p.1=k
   ·rw[if_pos q]
    have n:¬p.1=m:=fun z=>hm (z.symm.trans q)
    exact(if_neg n).trans (ih.trans (if_neg n).symm)
   ·rw[if_neg q]
    exact congrArg (ite (p.1=m) (some p.2)) ih
 have h2:lookA (kvs++[(k,v)]) m=lookA kvs m:=by
  clear h1
  induction kvs with
  |nil=>exact if_neg (Ne.symm hm)
  |cons p l ih=>exact congrArg (ite (p.1=m) (some p.2)) ih
 unfold storedA
 cases kvs.any fun kv=>decide (kv.1=k)with
 |true=>exact h1
 |false=>exact h2
theorem sto_len(h:lookA kvs k=none):storedA kvs k v=kvs++[(k,v)]:=by
 have:kvs.any (fun kv=>decide (kv.1=k))=false:=by
  induction kvs with
  |nil=>rfl
  |cons p l ih=>
   by_cases e:p.1=k
   ·exact nomatch h.symm.trans (if_pos e)
   ·rw[List.any_cons,decide_eq_false e];exact ih ((if_neg e).symm.trans h)
 unfold storedA
 rw[this];rfl
end
inductive Kp:List V→RW→List V→RW→Prop
 |nil {w}:Kp [] w [] w
 |old {l ls w i c m r w'}:w.lids[l]?=some (cref i)→w.cs[i]?=some c→lookA w.seen ((i:Int)+1)=some (.int m)→Kp ls w r w'→Kp (.int (.ofNat l)::ls) w (.int m::r) w'
 |new {l ls w i c r w'}:w.lids[l]?=some (cref i)→w.cs[i]?=some c→lookA w.seen ((i:Int)+1)=none→w.seen.length < LIM→w.cells.length < LIM→Kp ls {w with seen:=storedA w.seen ((i:Int)+1) (.int w.cells.length),cells:=w.cells++[cref i]} r w'→Kp (.int (.ofNat l)::ls) w (.int w.cells.length::r) w'
noncomputable abbrev keB:Ss:=(.cons (.asg 4 (.sub (.sub (.var 0) (.str 19)) (.var 3)))
  (.cons (.iff (.cmp .notin (.sub (.var 4) (.int 1)) (.sub (.var 0) (.str 14))) (.cons (.seti (.sub (.var 0) (.str 14)) (.sub (.var 4) (.int 1)) (.blt .len (.sub (.var 0) (.str 15))))
  (.cons (.appr (.sub (.var 0) (.str 15)) (.var 4))
  .nil)) .nil)
  (.cons (.app 2 (.sub (.sub (.var 0) (.str 14)) (.sub (.var 4) (.int 1))))
  .nil)))
inductive TlK:Rho→Prop
 |a:TlK []
 |b (x y):TlK [(3,.v x),(4,.v y)]
section
variable {X:Wd}{D:Nat}{P:RP}{W W₁ W₂ W₃:RW}{f:Nat}{r rr ss:List V}{tl:Rho}
theorem cell_n{i:Nat}{c:Int}(hc:W.cs[i]?=some c):SubR (rs P W) (.ref (i+20)) (.int 1) (.int ((i:Int)+1)):=by
 have h:=cells_get (k:=0) hc
 rw[Nat.zero_add]at h
 exact .nth (.ls h) rfl
theorem ke_old{l i:Nat}{c m:Int}{a y:V}(h1:W.lids[l]?=some (cref i))(h2:W.cs[i]?=some c)(h3:lookA W.seen ((i:Int)+1)=some (.int m))(hl:rr.length < LIM)(ht:tl=[]∨tl=[(4,.v y)]):OkB X D keB ((0,.v (.ref 19))::(1,.v a)::(2,.o rr)::(3,.v (.int (.ofNat l)))::tl) (rs P W) (.next,[(0,.v (.ref 19)),(1,.v a),(2,.o (rr++[.int m])),(3,.v (.int (.ofNat l))),(4,.v (cref i))],rs P W):=by
 rcases ht with rfl|rfl<;>exact .by 934 fun q=>q _ (.nth (.ls rfl) h1) _ (cell_n h2) false (by rw[h3];rfl) _ (cell_n h2) _ (.ikey rfl h3) (Qs.mpr hl)
theorem ke_new{l i:Nat}{c:Int}{a y:V}(h1:W.lids[l]?=some (cref i))(h2:W.cs[i]?=some c)(h3:lookA W.seen ((i:Int)+1)=none)(h4:W.seen.length < LIM)(h5:W.cells.length < LIM)(hl:rr.length < LIM)(ht:tl=[]∨tl=[(4,.v y)]):OkB X D keB ((0,.v (.ref 19))::(1,.v a)::(2,.o rr)::(3,.v (.int (.ofNat l)))::tl) (rs P W) (.next,[(0,.v (.ref 19)),(1,.v a),(2,.o (rr++[.int W.cells.length])),(3,.v (.int (.ofNat l))),(4,.v (cref i))],rs P {W with seen:=storedA W.seen ((i:Int)+1) (.int W.cells.length),cells:=W.cells++[cref i]}):=by
 rcases ht with rfl|rfl<;>exact .by 952870 fun q=>q _ (.nth (.ls rfl) h1) _ (cell_n h2) true (by rw[h3];rfl) _ (cell_n h2) (Qs.mpr h4) (Qs.mpr h5) _ (cell_n (W:={W with seen:=storedA W.seen ((i:Int)+1) (.int W.cells.length),cells:=W.cells++[cref i]}) h2) _ (.ikey rfl sto_self) (Qs.mpr hl)
theorem ke_all{a:V}(h:Kp ss W r W₁):∀{rr:List V}{tl:Rho},TlK tl→rr.length+ss.length≤LIM→∃tl',Rounds X D (B1 3) keB ss ((0,.v (.ref 19))::(1,.v a)::(2,.o rr)::tl) (rs P W) (.next,(0,.v (.ref 19))::(1,.v a)::(2,.o (rr++r))::tl',rs P W₁):=by
 induction h with
 |nil=>intro rr tl _ _;rw[QA];exact⟨_,.nil⟩
 | @old l ls w i c m r w' h1 h2 h3 _ ih=>
  intro rr tl ht hl
  obtain⟨tl',e⟩:=ih (rr:=rr++[.int m]) (.b (.int (.ofNat l)) (cref i)) (by rw[Qb];exact Qf (QT (by rw[Nat.add_assoc,Nat.add_comm _ ls.length];rfl)) hl)
  rw[QN]at e
  induction ht with
  |a=>exact⟨tl',.go rfl (ke_old (y:=.none) h1 h2 h3 (QE (Nat.lt_add_of_pos_right (Nat.succ_pos _)) hl) (.inl rfl)) .next e⟩
  |b x y=>exact⟨tl',.go rfl (ke_old h1 h2 h3 (QE (Nat.lt_add_of_pos_right (Nat.succ_pos _)) hl) (.inr rfl)) .next e⟩
 | @new l ls w i c r w' h1 h2 h3 h4 h5 _ ih=>
  intro rr tl ht hl
  obtain⟨tl',e⟩:=ih (rr:=rr++[.int w.cells.length]) (.b (.int (.ofNat l)) (cref i)) (by rw[Qb];exact Qf (QT (by rw[Nat.add_assoc,Nat.add_comm _ ls.length];rfl)) hl)
  rw[QN]at e
  induction ht with
  |a=>exact⟨tl',.go rfl (ke_new (y:=.none) h1 h2 h3 h4 h5 (QE (Nat.lt_add_of_pos_right (Nat.succ_pos _)) hl) (.inl rfl)) .next e⟩
  |b x y=>exact⟨tl',.go rfl (ke_new h1 h2 h3 h4 h5 (QE (Nat.lt_add_of_pos_right (Nat.succ_pos _)) hl) (.inr rfl)) .next e⟩
theorem kept_stop{k:Int}(h:W.stop=true):Runs X (D+1) 767 [.ref 19,.int k] (rs P W) (.none,rs P W):=.by 4 rfl fun q=>q true h
theorem kept_go(hs:W.stop=false)(hg:P.gr[f]?=some (.tup ss))(h:Kp ss W r W₁)(hl:ss.length≤LIM)(h1:W₁.log.length < LIM):Runs X (D+1) 767 [.ref 19,.int (.ofNat f)] (rs P W) (.none,rs P {W₁ with log:=W₁.log++[.tup [.str 21,.int (.ofNat f),.flist r]]}):=by
 obtain⟨tl,e⟩:=ke_all (X:=X) (D:=D) (P:=P) (a:=.int (.ofNat f)) h .a (rr:=[]) (Qf (QT (Nat.zero_add _)) hl)
 exact .by 1108 rfl fun q=>q false hs _ (.nth (.ls rfl) hg) _ _ _ e (Qs.mpr h1)
end
theorem Runs.le{X:Wd}{d d' f:Nat}{vs:List V}{σ:Sg}{r:V × Sg}(h:Runs X d f vs σ r)(l:d≤d'):Runs X d' f vs σ r:=⟨h.fn,fun A s g us hr=>h.run A s g us ⟨hr.hd,by have:=hr.dep;lia,by have:=hr.uni;lia⟩⟩
theorem Row.le{X:Wd}{d d':Nat}{P:RP}{ss:List V}{W W':RW}{f:V}(h:Row X d P ss W f W')(l:d≤d'):Row X d' P ss W f W':=by
 induction h with
 |nil=>exact .nil
 |go h _ ih=>exact .go (h.le l) ih
 |out h k=>exact .out (h.le l) k
noncomputable def rg(c:Int):Prop:=0≤c∧c < 4
noncomputable def cv(cs:List Int)(v:V):Option Int:=cV v (rf:=fun i=>cs[i - 20]?)
noncomputable def Ob(W:RW):List V × List (Option Int) × Option (Option Int) × Option (Option Int):=(W.log,W.cells.map (cv W.cs),W.lids[1]?.map (cv W.cs),W.lids[2]?.map (cv W.cs))
inductive CellIn(cs:List Int):V→Prop
 |mk {i}:i < cs.length→CellIn cs (cref i)
inductive SeeIn(cs:List Int):Int→V→Prop
 |mk {i m}:i < cs.length→SeeIn cs ((i:Int)+1) (.int m)
inductive RgV:V→Prop
 |mk {c}:rg c→RgV (.int c)
inductive RwD:V→Prop
 |one {k x}:RwD (.tup [.str k,.int x])
 |row {k m}(is:List Int):RwD (.tup [.str k,.int m,.flist (is.map .int)])
structure Vd(n:Nat)(W:RW):Prop where
 n3:3≤n
 len:W.lids.length=n
 lid:∀v∈W.lids,CellIn W.cs v
 val:∀c∈W.cs,rg c
 hol:rg W.hole
 cau:∀v∈W.caught,RgV v
 cel:∀v∈W.cells,CellIn W.cs v
 see:∀k v,lookA W.seen k=some v→SeeIn W.cs k v
 sel:W.seen.length=W.cells.length
 lgd:∀r∈W.log,RwD r
structure Frz(n:Nat)(W W':RW):Prop where
 st:W'.stop=true
 vd:Vd n W'
 cau:W'.caught=W.caught
 ob:Ob W'=Ob W
 hld:W'.held=W.held
structure FF(n:Nat)(c:List V)(W T:RW):Prop where
 ss:W.stop=true
 st:T.stop=true
 vs:Vd n W
 vt:Vd n T
 cs:W.caught=c
 ct:T.caught=c
 ob:Ob W=Ob T
section
variable {n l:Nat}{W W' W'' T T':RW}{v c:Int}{cs:List Int}{C:List V}{ls:List Nat}
theorem Frz.refl(s:W.stop=true)(h:Vd n W):Frz n W W:=⟨s,h,rfl,rfl,rfl⟩
theorem Frz.trans(a:Frz n W W')(b:Frz n W' W''):Frz n W W'':=⟨b.st,b.vd,b.cau.trans a.cau,b.ob.trans a.ob,b.hld.trans a.hld⟩
theorem FF.step(h:FF n C W T)(a:Frz n W W')(b:Frz n T T'):FF n C W' T':=⟨a.st,b.st,a.vd,b.vd,a.cau.trans h.cs,b.cau.trans h.ct,a.ob.trans (h.ob.trans b.ob.symm)⟩
theorem FF.ft(h:FF n C W T):Frz n T T:=.refl h.st h.vt
theorem rg0:rg 0:=⟨Qa _,by decide⟩
theorem rg_mod(x:Int):rg (x % 4):=⟨Int.emod_nonneg _ (by decide),Int.emod_lt_of_pos _ (by decide)⟩
theorem Vd.look(h:Vd n W)(hl:l < n):∃i c,W.lids[l]?=some (cref i)∧W.cs[i]?=some c∧rg c:=by
 have hl':l < W.lids.length:=h.len.symm▸hl
 have e:=Qj hl'
 have q:=h.lid _ (List.getElem_mem hl')
 revert e q
 generalize W.lids[l]=v
 intro e q
 induction q with
 | @mk i hi=>exact⟨i,_,e,Qj hi,h.val _ (List.getElem_mem hi)⟩
theorem cin_app{v:V}(h:CellIn cs v):CellIn (cs++[c]) v:=by
 obtain⟨h⟩:=h
 exact⟨by rw[Qb];exact Nat.lt_succ_of_lt h⟩
theorem see_app{k:Int}{v:V}(h:SeeIn cs k v):SeeIn (cs++[c]) k v:=by
 obtain⟨h⟩:=h
 exact⟨by rw[Qb];exact Nat.lt_succ_of_lt h⟩
theorem cv_app{v:V}(h:CellIn cs v):cv (cs++[c]) v=cv cs v:=by
 obtain⟨h⟩:=h
 exact Qp h
theorem Vd.rn(h:Vd n W)(hv:rg v):Vd n (rn l v W):=
 ⟨h.n3,by rw[← h.len];exact QP,fun u hu=>(List.mem_or_eq_of_mem_set hu).elim (fun k=>cin_app (h.lid u k)) fun k=>k▸⟨by show _ <(W.cs++[v]).length;rw[Qb];exact Nat.lt_succ_self _⟩,
  fun x hx=>(QI.mp hx).elim (h.val x) fun k=>Qk.mp k▸hv,h.hol,h.cau,fun u hu=>cin_app (h.cel u hu),fun k u hu=>see_app (h.see k u hu),h.sel,h.lgd⟩
theorem Vd.mem(h:Vd n W){u:V}(e:W.lids[l]?=some u):CellIn W.cs u:=h.lid u (Qz e)
theorem ob_lid(h:Vd n W){m:Nat}(hl:l≠m):(W.lids.set l (cref W.cs.length))[m]?.map (cv (W.cs++[v]))=W.lids[m]?.map (cv W.cs):=by
 rw[List.getElem?_set_ne hl]
 cases e:W.lids[m]? with
 |none=>rfl
 |some u=>exact congrArg some (cv_app (h.mem e))
theorem Frz.rn(s:W.stop=true)(h:Vd n W)(hv:rg v)(h1:l≠1)(h2:l≠2):Frz n W (rn l v W):=
 ⟨s,h.rn hv,rfl,by
  show(W.log,_,_,_)=(W.log,_,_,_)
  rw[← ob_lid (v:=v) h h1,← ob_lid (v:=v) h h2,← QL fun u hu=>cv_app (c:=v) (h.cel u hu)]
  rfl,rfl⟩
theorem Frz.rns:∀{W:RW},W.stop=true→Vd n W→(∀l∈ls,l≠1∧l≠2)→Frz n W (rnAll ls W):=by
 induction ls with
 |nil=>exact fun s h _=>.refl s h
 |cons l ls ih=>
  intro W s h hl
  have a:=Frz.rn s h rg0 (hl l Qe).1 (hl l Qe).2
  exact a.trans (ih a.st a.vd fun m hm=>hl m (Qg _ hm))
theorem Frz.hol(s:W.stop=true)(h:Vd n W)(hv:rg v):Frz n W (hol v W):=⟨s,⟨h.n3,h.len,h.lid,h.val,hv,h.cau,h.cel,h.see,h.sel,h.lgd⟩,rfl,rfl,rfl⟩
end
structure Mp(Q:Nat→Prop)(f:Nat→Nat)(W T:RW):Prop where
 val:∀i c,T.cs[i]?=some c→W.cs[f i]?=some c
 inj:∀i j,i < T.cs.length→j < T.cs.length→f i=f j→i=j
 lid:∀l,Q l→∃i,i < T.cs.length∧T.lids[l]?=some (cref i)∧W.lids[l]?=some (cref (f i))
 see:∀i,i < T.cs.length→lookA T.seen ((i:Int)+1)=lookA W.seen ((f i:Int)+1)
 cel:∃is:List Nat,T.cells=is.map cref∧W.cells=is.map fun i=>cref (f i)
structure Simu(n:Nat)(Q:Nat→Prop)(m:Nat)(W T:RW):Prop where
 vs:Vd n W
 vt:Vd n T
 ss:W.stop=false
 st:T.stop=false
 log:W.log=T.log
 hrd:W.heard=T.heard
 hol:W.hole=T.hole
 cau:W.caught=T.caught
 h14:0≤W.heard∧W.heard≤14
 fit:(W.log.length:Int)+W.cells.length+T.held.length+W.caught.length+m≤1000000*(W.heard+1)
 mp:∃f,Mp (fun l=>l < n∧Q l) f W T
 cne:Q n→W.caught≠[]
noncomputable def Hk(lo hi:Int)(T T':RW):Prop:=∀k,k≤lo∨hi < k→lookA T'.held k=lookA T.held k
structure Mv(lo hi d:Int)(W T W' T':RW):Prop where
 cau:W'.caught=W.caught
 hrd:W.heard+d≤W'.heard
 hld:Hk lo hi T T'
noncomputable def nt(r:V)(W:RW):RW:={W with heard:=W.heard+1,log:=W.log++[r]}
noncomputable def lg(r:V)(W:RW):RW:={W with log:=W.log++[r]}
noncomputable def stp(W:RW):RW:={W with stop:=true}
noncomputable def pt(i:Nat)(x:Int)(W:RW):RW:={W with cs:=W.cs.set i x}
noncomputable def hd(k x:Int)(W:RW):RW:={W with held:=storedA W.held k (.int x)}
section
variable {n l m m' i:Nat}{Q R:Nat→Prop}{W T W₁ T₁ W₂ T₂:RW}{v x lo hi lo' hi' d e k:Int}{r:V}{f:Nat→Nat}{ls:List Nat}
theorem Hk.refl:Hk lo hi T T:=fun _ _=>rfl
theorem Hk.trans(a:Hk lo hi T T₁)(b:Hk lo hi T₁ T₂):Hk lo hi T T₂:=fun k h=>(b k h).trans (a k h)
theorem Hk.wide(a:Hk lo hi T T₁)(h1:lo'≤lo)(h2:hi≤hi'):Hk lo' hi' T T₁:=fun k h=>a k (h.imp (fun h=>QH h h1) fun h=>Int.lt_of_le_of_lt h2 h)
theorem Mv.refl:Mv lo hi 0 W T W T:=⟨rfl,Int.le_of_eq (Int.add_zero _),.refl⟩
theorem Mv.trans(a:Mv lo hi d W T W₁ T₁)(b:Mv lo hi e W₁ T₁ W₂ T₂):Mv lo hi (d+e) W T W₂ T₂:=⟨b.cau.trans a.cau,by have:=a.hrd;have:=b.hrd;lia,a.hld.trans b.hld⟩
theorem Mv.wide(a:Mv lo hi d W T W₁ T₁)(h1:lo'≤lo)(h2:hi≤hi')(h3:e≤d):Mv lo' hi' e W T W₁ T₁:=⟨a.cau,by have:=a.hrd;lia,a.hld.wide h1 h2⟩
theorem Mp.mono(h:Mp Q f W T)(k:∀l,R l→Q l):Mp R f W T:=⟨h.val,h.inj,fun l q=>h.lid l (k l q),h.see,h.cel⟩
theorem Simu.mono(h:Simu n Q m W T)(k:∀l,R l→Q l)(hm:m'≤m):Simu n R m' W T:=⟨h.vs,h.vt,h.ss,h.st,h.log,h.hrd,h.hol,h.cau,h.h14,by have:=h.fit;lia,h.mp.elim fun f p=>⟨f,p.mono fun l q=>⟨q.1,k l q.2⟩⟩,fun q=>h.cne (k n q)⟩
theorem Simu.less(h:Simu n Q m W T)(hm:m'≤m):Simu n Q m' W T:=h.mono (fun _ q=>q) hm
theorem Simu.lims(h:Simu n Q m W T):W.log.length < LIM∧W.cells.length < LIM∧T.held.length < LIM∧W.caught.length < LIM:=by
 have h1:=h.fit
 have h2:=h.h14
 have:LIM=16777216:=rfl
 lia
theorem Mp.look(h:Mp Q f W T)(hl:Q l):∃i c,T.lids[l]?=some (cref i)∧T.cs[i]?=some c∧W.lids[l]?=some (cref (f i))∧W.cs[f i]?=some c:=by
 obtain⟨i,h1,h2,h3⟩:=h.lid l hl
 exact⟨i,_,h2,Qj h1,h3,h.val i _ (Qj h1)⟩
theorem Mp.celeq(h:Mp Q f W T)(vt:Vd n T):W.cells.map (cv W.cs)=T.cells.map (cv T.cs):=by
 obtain⟨is,h1,h2⟩:=h.cel
 rw[h1,h2,List.map_map,List.map_map]
 refine QL fun i hi=>?_
 have q:=vt.cel (cref i) (h1▸List.mem_map_of_mem hi)
 generalize e:cref i=u at q
 induction q with
 | @mk j hj=>
  obtain rfl:i=j:=by injection e with e;exact Nat.add_right_cancel e
  exact(h.val i _ (Qj hj)).trans (Qj hj).symm
theorem Mp.lideq(h:Mp Q f W T)(hl:Q l):W.lids[l]?.map (cv W.cs)=T.lids[l]?.map (cv T.cs):=by
 obtain⟨i,c,h1,h2,h3,h4⟩:=h.look hl
 rw[h1,h3]
 exact congrArg some (h4.trans h2.symm)
theorem Simu.obs(h:Simu n Q m W T)(h1:Q 1)(h2:Q 2):Ob W=Ob T:=by
 obtain⟨f,p⟩:=h.mp
 unfold Ob
 rw[p.celeq h.vt,p.lideq ⟨QE (by decide) h.vs.n3,h1⟩,p.lideq ⟨QE (by decide) h.vs.n3,h2⟩,h.log]
theorem Simu.stp(h:Simu n Q m W T)(h1:Q 1)(h2:Q 2):FF n W.caught (stp W) (stp T):=
 ⟨rfl,rfl,⟨h.vs.n3,h.vs.len,h.vs.lid,h.vs.val,h.vs.hol,h.vs.cau,h.vs.cel,h.vs.see,h.vs.sel,h.vs.lgd⟩,⟨h.vt.n3,h.vt.len,h.vt.lid,h.vt.val,h.vt.hol,h.vt.cau,h.vt.cel,h.vt.see,h.vt.sel,h.vt.lgd⟩,rfl,h.cau.symm,h.obs h1 h2⟩
theorem lg_in(h:Vd n W)(hr:RwD r):∀x∈W.log++[r],RwD x:=fun x hx=>(QI.mp hx).elim (h.lgd x) fun e=>Qk.mp e▸hr
theorem Vd.nt(h:Vd n W)(hr:RwD r):Vd n (nt r W):=⟨h.n3,h.len,h.lid,h.val,h.hol,h.cau,h.cel,h.see,h.sel,lg_in h hr⟩
theorem Vd.lg(h:Vd n W)(hr:RwD r):Vd n (lg r W):=⟨h.n3,h.len,h.lid,h.val,h.hol,h.cau,h.cel,h.see,h.sel,lg_in h hr⟩
theorem Vd.hd(h:Vd n W):Vd n (hd k x W):=⟨h.n3,h.len,h.lid,h.val,h.hol,h.cau,h.cel,h.see,h.sel,h.lgd⟩
theorem Simu.nt(h:Simu n Q m W T)(hr:RwD r)(h13:¬13 < W.heard):Simu n Q (m+999999) (nt r W) (nt r T):=
 ⟨h.vs.nt hr,h.vt.nt hr,h.ss,h.st,congrArg (·++[r]) h.log,congrArg (·+ 1) h.hrd,h.hol,h.cau,by have:=h.h14;exact⟨by show 0≤W.heard+1;lia,by show W.heard+1≤14;lia⟩,
  by
  have:=h.fit
  show(((W.log++[r]).length:Nat):Int)+W.cells.length+T.held.length+W.caught.length+((m+999999:Nat):Int)≤1000000*(W.heard+1+1)
  rw[Qb,Qu];lia,h.mp.elim fun f p=>⟨f,p.val,p.inj,p.lid,p.see,p.cel⟩,h.cne⟩
theorem Simu.lg(h:Simu n Q (m+1) W T)(hr:RwD r):Simu n Q m (lg r W) (lg r T):=
 ⟨h.vs.lg hr,h.vt.lg hr,h.ss,h.st,congrArg (·++[r]) h.log,h.hrd,h.hol,h.cau,h.h14,
  by
  have:=h.fit
  show(((W.log++[r]).length:Nat):Int)+W.cells.length+T.held.length+W.caught.length+(m:Int)≤1000000*(W.heard+1)
  rw[Qb,Qu];lia,h.mp.elim fun f p=>⟨f,p.val,p.inj,p.lid,p.see,p.cel⟩,h.cne⟩
theorem sto_le{kvs:List (Int × V)}:(storedA kvs k r).length≤kvs.length+1:=by
 unfold storedA
 cases kvs.any fun kv=>decide (kv.1=k)with
 |true=>show(List.map _ kvs).length≤_;rw[Qr];exact Qn _
 |false=>show(kvs++_).length≤_;rw[Qb];exact Qd _
theorem Simu.hd(h:Simu n Q (m+1) W T):Simu n Q m W (hd k x T):=
 ⟨h.vs,h.vt.hd,h.ss,h.st,h.log,h.hrd,h.hol,h.cau,h.h14,
  by
  have:=h.fit
  have:=sto_le (kvs:=T.held) (k:=k) (r:=.int x)
  show(W.log.length:Int)+W.cells.length+(storedA T.held k (.int x)).length+W.caught.length+(m:Int)≤1000000*(W.heard+1)
  lia,h.mp.elim fun f p=>⟨f,p.val,p.inj,p.lid,p.see,p.cel⟩,h.cne⟩
theorem keep_hd(h1:lo < k)(h2:k≤hi):Hk lo hi T (Mine.hd k x T):=fun j h=>sto_ne (by lia)
theorem Vd.pt(h:Vd n W)(hx:rg x):Vd n (pt i x W):=
 ⟨h.n3,h.len,fun v hv=>(h.lid v hv).rec fun q=>⟨QP.symm▸q⟩,fun c hc=>(List.mem_or_eq_of_mem_set hc).elim (h.val c) fun e=>e▸hx,h.hol,h.cau,fun v hv=>(h.cel v hv).rec fun q=>⟨QP.symm▸q⟩,fun k v hv=>(h.see k v hv).rec fun q=>⟨QP.symm▸q⟩,h.sel,h.lgd⟩
theorem Mp.pt(h:Mp Q f W T)(hi:i < T.cs.length):Mp Q f (pt (f i) x W) (pt i x T):=
 ⟨fun j c e=>by
  have e:(T.cs.set i x)[j]?=some c:=e
  show(W.cs.set (f i) x)[f j]?=some c
  have hf:=(Qc.mp (h.val i _ (Qj hi))).1
  by_cases q:i=j
  ·subst q
   rw[List.getElem?_set_self hi]at e
   rw[List.getElem?_set_self hf];exact e
  ·rw[List.getElem?_set_ne q]at e
   rw[List.getElem?_set_ne fun z=>q (h.inj i j hi (Qc.mp e).1 z)]
   exact h.val j c e,
  fun a b ha hb=>h.inj a b (QP▸ha) (QP▸hb),fun l q=>(h.lid l q).elim fun a ⟨b,c⟩=>⟨a,QP.symm▸b,c⟩,fun a ha=>h.see a (QP▸ha),h.cel⟩
theorem Simu.pt(h:Simu n Q m W T)(hl:l < n∧Q l)(hx:rg x):∃i j c,W.lids[l]?=some (cref i)∧W.cs[i]?=some c∧T.lids[l]?=some (cref j)∧T.cs[j]?=some c∧Simu n Q m (pt i x W) (pt j x T):=by
 obtain⟨f,p⟩:=h.mp
 obtain⟨i,c,h1,h2,h3,h4⟩:=p.look hl
 exact⟨_,_,c,h3,h4,h1,h2,h.vs.pt hx,h.vt.pt hx,h.ss,h.st,h.log,h.hrd,h.hol,h.cau,h.h14,h.fit,⟨f,p.pt (Qc.mp h2).1⟩,h.cne⟩
end
noncomputable def fx(f:Nat→Nat)(a b:Nat):Nat→Nat:=fun j=>ite (j=a) b (f j)
section
variable {n l m m' i:Nat}{Q R:Nat→Prop}{W T W₁ T₁ W₂ T₂:RW}{v x lo hi lo' hi' d e k:Int}{r:V}{f:Nat→Nat}{ls:List Nat}
theorem Mp.lt(h:Mp Q f W T)(hi:i < T.cs.length):f i < W.cs.length:=(Qc.mp (h.val i _ (Qj hi))).1
theorem fx_old{a b:Nat}(h:i < a):fx f a b i=f i:=if_neg (Nat.ne_of_lt h)
theorem see_out(h:Vd n W):lookA W.seen ((W.cs.length:Int)+1)=none:=by
 cases e:lookA W.seen ((W.cs.length:Int)+1)with
 |none=>rfl
 |some u=>
  have q:=h.see _ _ e
  generalize hk:(W.cs.length:Int)+1=k at q
  induction q with
  |mk hi=>exact absurd hi (by lia)
theorem ltS{α:Type}{cs:List α}{v:α}(h:i <(cs++[v]).length):i < cs.length∨i=cs.length:=by
 rw[Qb]at h
 exact Nat.lt_or_eq_of_le (Nat.le_of_lt_succ h)
theorem ltA{α:Type}{cs:List α}{v:α}(h:i < cs.length):i <(cs++[v]).length:=by rw[Qb];exact Nat.lt_succ_of_lt h
theorem Mp.rn(h:Mp Q f W T)(vs:Vd n W)(vt:Vd n T)(hl:l < n)(hq:∀a,R a→Q a∨a=l):Mp R (fx f T.cs.length W.cs.length) (rn l v W) (rn l v T):=by
 refine⟨fun j c e=>?_,fun a b ha hb z=>?_,fun a q=>?_,fun a ha=>?_,?_⟩
 ·have e:(T.cs++[v])[j]?=some c:=e
  show(W.cs++[v])[fx f T.cs.length W.cs.length j]?=some c
  rcases ltS (Qc.mp e).1 with q|rfl
  ·rw[fx_old q,Qp (h.lt q)]
   exact h.val j c (Qp q▸e)
  ·rw[show fx f T.cs.length W.cs.length T.cs.length=_ from if_pos rfl]
   rw[Qx]at e⊢
   exact e
 ·rcases ltS ha with ha|rfl<;>rcases ltS hb with hb|rfl
  ·rw[fx_old ha,fx_old hb]at z;exact h.inj a b ha hb z
  ·rw[fx_old ha,show fx f T.cs.length W.cs.length T.cs.length=_ from if_pos rfl]at z;exact absurd z (Nat.ne_of_lt (h.lt ha))
  ·rw[fx_old hb,show fx f T.cs.length W.cs.length T.cs.length=_ from if_pos rfl]at z;exact absurd z (Nat.ne_of_gt (h.lt hb))
  ·rfl
 ·have h1:∀{W:RW},Vd n W→(W.lids.set l (cref W.cs.length))[l]?=some (cref W.cs.length):=fun h=>List.getElem?_set_self (h.len.symm▸hl)
  by_cases e:a=l
  ·subst e
   exact⟨T.cs.length,by show _ <(T.cs++[v]).length;rw[Qb];exact Nat.lt_succ_self _,h1 vt,(h1 vs).trans (by rw[fx,if_pos rfl])⟩
  ·obtain⟨i,a1,a2,a3⟩:=h.lid a ((hq a q).resolve_right e)
   exact⟨i,ltA a1,(List.getElem?_set_ne (Ne.symm e)).trans a2,(List.getElem?_set_ne (Ne.symm e)).trans (by rw[fx_old a1];exact a3)⟩
 ·rcases ltS ha with ha|rfl
  ·rw[fx_old ha];exact h.see a ha
  ·rw[show fx f T.cs.length W.cs.length T.cs.length=_ from if_pos rfl];exact(see_out vt).trans (see_out vs).symm
 ·obtain⟨is,h1,h2⟩:=h.cel
  refine⟨is,h1,h2.trans (QL fun i hi=>?_)⟩
  have q:=vt.cel (cref i) (h1▸List.mem_map_of_mem hi)
  generalize e:cref i=u at q
  induction q with
  | @mk j hj=>
   obtain rfl:i=j:=by injection e with e;exact Nat.add_right_cancel e
   rw[fx_old hj]
theorem Simu.rn(h:Simu n Q m W T)(hl:l < n)(hv:rg v)(hq:∀a,R a→Q a∨a=l):Simu n R m (rn l v W) (rn l v T):=
 ⟨h.vs.rn hv,h.vt.rn hv,h.ss,h.st,h.log,h.hrd,h.hol,h.cau,h.h14,h.fit,h.mp.elim fun _ p=>⟨_,p.rn h.vs h.vt hl fun a k=>(hq a k.2).imp (fun z=>⟨k.1,z⟩) fun z=>z⟩,fun q=>h.cne ((hq n q).resolve_right (Nat.ne_of_gt hl))⟩
theorem Simu.rns:∀{W T:RW}{Q:Nat→Prop},Simu n Q m W T→(∀l∈ls,l < n)→(∀a,R a→Q a∨a∈ls)→Simu n R m (rnAll ls W) (rnAll ls T):=by
 induction ls with
 |nil=>exact fun h _ q=>h.mono (fun a k=>(q a k).resolve_right fun z=>nomatch z) (Qd _)
 |cons l ls ih=>exact fun{_ _ Q} h hl q=>ih (h.rn (R:=fun a=>Q a∨a=l) (hl l Qe) rg0 fun _ k=>k) (fun a ha=>hl a (Qg _ ha)) fun a k=>(q a k).elim (fun z=>.inl (.inl z)) fun z=>(Qt.mp z).imp .inr fun z=>z
theorem Simu.hole(h:Simu n Q m W T)(hv:rg v):Simu n Q m (Mine.hol v W) (Mine.hol v T):=
 ⟨⟨h.vs.n3,h.vs.len,h.vs.lid,h.vs.val,hv,h.vs.cau,h.vs.cel,h.vs.see,h.vs.sel,h.vs.lgd⟩,⟨h.vt.n3,h.vt.len,h.vt.lid,h.vt.val,hv,h.vt.cau,h.vt.cel,h.vt.see,h.vt.sel,h.vt.lgd⟩,h.ss,h.st,h.log,h.hrd,rfl,h.cau,h.h14,h.fit,h.mp.elim fun f p=>⟨f,p.val,p.inj,p.lid,p.see,p.cel⟩,h.cne⟩
noncomputable def psh(v:V)(W:RW):RW:={W with caught:=W.caught++[v]}
noncomputable def pop(W:RW):RW:={W with caught:=W.caught.dropLast}
theorem Vd.psh(h:Vd n W)(hv:rg v):Vd n (psh (.int v) W):=⟨h.n3,h.len,h.lid,h.val,h.hol,fun u hu=>(QI.mp hu).elim (h.cau u) fun e=>Qk.mp e▸.mk hv,h.cel,h.see,h.sel,h.lgd⟩
theorem Vd.pop(h:Vd n W):Vd n (pop W):=⟨h.n3,h.len,h.lid,h.val,h.hol,fun u hu=>h.cau u (List.dropLast_subset _ hu),h.cel,h.see,h.sel,h.lgd⟩
theorem Simu.psh(h:Simu n Q (m+1) W T)(hv:rg v)(hq:∀a,R a→a < n→Q a):Simu n R m (psh (.int v) W) (psh (.int v) T):=
 ⟨h.vs.psh hv,h.vt.psh hv,h.ss,h.st,h.log,h.hrd,h.hol,congrArg (·++[V.int v]) h.cau,h.h14,by
  have:=h.fit
  show(W.log.length:Int)+W.cells.length+T.held.length+(W.caught++[V.int v]).length+(m:Int)≤1000000*(W.heard+1)
  rw[Qb,Qu];lia,h.mp.elim fun f p=>⟨f,p.val,p.inj,fun l q=>p.lid l ⟨q.1,hq l q.2 q.1⟩,p.see,p.cel⟩,fun _=>List.append_ne_nil_of_right_ne_nil _ (List.cons_ne_nil _ _)⟩
theorem Simu.pop(h:Simu n Q m W T)(hq:∀a,R a→a < n→Q a)(hc:R n→W.caught.dropLast≠[]):Simu n R m (pop W) (pop T):=
 ⟨h.vs.pop,h.vt.pop,h.ss,h.st,h.log,h.hrd,h.hol,congrArg List.dropLast h.cau,h.h14,by
  have:=h.fit
  show(W.log.length:Int)+W.cells.length+T.held.length+W.caught.dropLast.length+(m:Int)≤1000000*(W.heard+1)
  rw[List.length_dropLast];lia,h.mp.elim fun f p=>⟨f,p.val,p.inj,fun l q=>p.lid l ⟨q.1,hq l q.2 q.1⟩,p.see,p.cel⟩,hc⟩
noncomputable def se(i:Nat)(W:RW):RW:={W with seen:=storedA W.seen ((i:Int)+1) (.int W.cells.length),cells:=W.cells++[cref i]}
theorem Vd.se(h:Vd n W)(hi:i < W.cs.length)(e:lookA W.seen ((i:Int)+1)=none):Vd n (se i W):=
 ⟨h.n3,h.len,h.lid,h.val,h.hol,h.cau,fun u hu=>(QI.mp hu).elim (h.cel u) fun e=>Qk.mp e▸.mk hi,
  fun k v hv=>by
  by_cases q:k=(i:Int)+1
  ·subst q
   have hv:lookA (storedA W.seen ((i:Int)+1) (.int W.cells.length)) ((i:Int)+1)=some v:=hv
   rw[sto_self]at hv
   exact Ql hv▸.mk hi
  ·exact h.see k v ((sto_ne q).symm.trans hv),
  by
  show(storedA W.seen ((i:Int)+1) (.int W.cells.length)).length=(W.cells++[cref i]).length
  rw[sto_len e,Qb,Qb,h.sel];rfl,h.lgd⟩
theorem Simu.cellen(h:Simu n Q m W T):W.cells.length=T.cells.length:=by
 obtain⟨f,p⟩:=h.mp
 obtain⟨is,h1,h2⟩:=p.cel
 rw[h1,h2,Qr,Qr]
theorem Mp.se(p:Mp Q f W T)(hi:i < T.cs.length)(hc:W.cells.length=T.cells.length):Mp Q f (se (f i) W) (se i T):=
 ⟨p.val,p.inj,p.lid,fun a ha=>by
  show lookA (storedA T.seen ((i:Int)+1) (.int T.cells.length)) ((a:Int)+1)=lookA (storedA W.seen ((f i:Int)+1) (.int W.cells.length)) ((f a:Int)+1)
  by_cases q:a=i
  ·subst q
   rw[sto_self,sto_self,hc]
  ·rw[sto_ne (by lia),sto_ne (by have:f a≠f i:=fun z=>q (p.inj a i ha hi z);lia)]
   exact p.see a ha,p.cel.elim fun is ⟨h1,h2⟩=>⟨is++[i],by
    rw[List.map_append,← h1];rfl,by rw[List.map_append,← h2];rfl⟩⟩
theorem keeps:∀{W T:RW},Simu n Q (m+ls.length) W T→(∀l∈ls,l < n∧Q l)→∃r W₁ T₁,Kp (lidV ls) W r W₁∧Kp (lidV ls) T r T₁∧Simu n Q m W₁ T₁∧Mv lo hi 0 W T W₁ T₁:=by
 induction ls with
 |nil=>exact fun h _=>⟨_,_,_,.nil,.nil,h,.refl⟩
 |cons l ls ih=>
  intro W T h hq
  obtain⟨f,p⟩:=h.mp
  obtain⟨i,c,h1,h2,h3,h4⟩:=p.look (hq l Qe)
  have hi:=(Qc.mp h2).1
  have e:=p.see i hi
  cases e1:lookA T.seen ((i:Int)+1)with
  |some u=>
   obtain⟨a,b,rfl⟩:∃a:Int,u=.int a:=(h.vt.see _ _ e1).rec (motive:=fun _ u _=>∃a:Int,u=.int a) fun _=>⟨_,rfl⟩
   obtain⟨r,W₁,T₁,k1,k2,s,mv⟩:=ih (h.less (Qn _)) fun a ha=>hq a (Qg _ ha)
   exact⟨_,_,_,.old h3 h4 (e.symm.trans e1) k1,.old h1 h2 e1 k2,s,mv⟩
  |none=>
   have e2:=e.symm.trans e1
   have hl:=h.lims
   have hl2:=h.vs.sel.symm▸hl.2.1
   have hc:=h.cellen
   have s:Simu n Q (m+ls.length) (se (f i) W) (se i T):=⟨h.vs.se (p.lt hi) e2,h.vt.se hi e1,h.ss,h.st,h.log,h.hrd,h.hol,h.cau,h.h14,by
    have:=h.fit
    show(W.log.length:Int)+(W.cells++[cref (f i)]).length+T.held.length+W.caught.length+((m+ls.length:Nat):Int)≤1000000*(W.heard+1)
    rw[Qb,Qu]
    rw[List.length_cons]at this
    lia,⟨f,p.se hi hc⟩,h.cne⟩
   obtain⟨r,W₁,T₁,k1,k2,s,mv⟩:=ih s fun a ha=>hq a (Qg _ ha)
   exact⟨_,_,_,.new h3 h4 e2 hl2 hl.2.1 k1,hc▸.new h1 h2 e1 (h.vt.sel.symm▸hc▸hl.2.1) (hc▸hl.2.1) k2,s,⟨mv.cau,mv.hrd,mv.hld⟩⟩
end
noncomputable abbrev rd(b:Bool)(P:RP):RP:={P with rdy:=b}
noncomputable abbrev Nt(X:Wd)(D:Nat)(P:RP)(r:V)(W W':RW):Prop:=Runs X D 760 [.ref 19,r] (rs P W) (.none,rs P W')
noncomputable abbrev Pu(X:Wd)(D:Nat)(P:RP)(l:Nat)(x:Int)(W W':RW):Prop:=Runs X D 753 [.ref 19,.int (.ofNat l),.int x] (rs P W) (.none,rs P W')
noncomputable abbrev Wa(X:Wd)(D:Nat)(P:RP)(x:Int)(W:RW)(y:Int)(W':RW):Prop:=Runs X D 774 [.ref 19,.int x] (rs P W) (.int y,rs P W')
structure Env(P:RP)(n:Nat):Prop where
 len:P.of.length=n
 win:∀k:Int,∃ls:List Nat,(lookA P.wi k).getD (.tup [])=.tup (lidV ls)∧∀l,l∈ls↔P.of[l]?=some (.int k)∧k≠0
 of1:P.of[1]?=some (.int 0)
 of2:P.of[2]?=some (.int 0)
structure Scp(P:RP)(n:Nat)(Q:Nat→Prop):Prop where
 env:Env P n
 q1:Q 1
 q2:Q 2
inductive Go(n:Nat)(Q:Nat→Prop)(m:Nat)(lo hi d:Int)(W T W' T':RW):Prop
 |go:Simu n Q m W' T'→Mv lo hi d W T W' T'→Go n Q m lo hi d W T W' T'
 |ff:FF n W.caught W' T'→T'.held.length < LIM→Go n Q m lo hi d W T W' T'
noncomputable abbrev Jn(j:Bool)(k:Nat):Prop:=@Bool.rec (fun _=>Prop) True (k < LIM) j
inductive Gv{α:Type}(j:Bool)(n:Nat)(Q:Nat→Prop)(g:α→Prop)(m:Nat)(lo hi d:Int)(W T:RW):α→RW→α→RW→Prop
 |go {x W' T'}:g x→Simu n Q m W' T'→Mv lo hi d W T W' T'→Gv j n Q g m lo hi d W T x W' x T'
 |ff {x W' y T'}:g x→g y→FF n W.caught W' T'→Jn j T'.held.length→Gv j n Q g m lo hi d W T x W' y T'
inductive Gw(n:Nat)(Q:Nat→Prop)(m:Nat)(lo hi d:Int)(W T:RW)(S U:RW→Prop):Prop
 |mk {W' T'}:S W'→U T'→Go n Q m lo hi d W T W' T'→Gw n Q m lo hi d W T S U
inductive Gx{α:Type}(j:Bool)(n:Nat)(Q:Nat→Prop)(g:α→Prop)(m:Nat)(lo hi d:Int)(W T:RW)(S U:α→RW→Prop):Prop
 |mk {x W' y T'}:S x W'→U y T'→Gv j n Q g m lo hi d W T x W' y T'→Gx j n Q g m lo hi d W T S U
theorem vint{a b:Int}(h:some (V.int a)=some (V.int b)):a=b:=by injection h with h;injection h
section
variable {X:Wd}{D n l m:Nat}{P:RP}{Q:Nat→Prop}{W T:RW}{r:V}{x lo hi:Int}
theorem note2(C:Scp P n Q)(h:Simu n Q m W T)(hr:RwD r):Gw n Q (m+999999) lo hi 1 W T (Nt X (D+1) (rd false P) r W) (Nt X (D+1) (rd true P) r T):=by
 by_cases h13:13 < W.heard
 ·exact .mk (note_late h13) (note_late (h.hrd▸h13)) (.ff (h.stp C.q1 C.q2) h.lims.2.2.1)
 ·have hl:=h.lims
  exact .mk (note_go h13 h.ss hl.1) (note_go (h.hrd▸h13) h.st (h.log▸hl.1)) (.go (h.nt hr h13) ⟨rfl,Qa _,.refl⟩)
theorem put2(h:Simu n Q m W T)(hl:l < n∧Q l)(hx:rg x):∃W' T',Pu X (D+1) (rd false P) l x W W'∧Pu X (D+1) (rd true P) l x T T'∧Simu n Q m W' T'∧Mv lo hi 0 W T W' T':=by
 obtain⟨i,j,c,h1,h2,h3,h4,s⟩:=h.pt hl hx
 exact⟨_,_,put_go h.ss h1 h2,put_go h.st h3 h4,s,rfl,Int.le_of_eq (Int.add_zero _),.refl⟩
theorem waitS(s:W.stop=true)(h:Vd n W):Wa X (D+2) P x W (W.heard % 4) W:=by
 obtain⟨i,c,h1,h2,_⟩:=h.look (QE (by decide:1 < 3) h.n3)
 exact wait_ok (note_stop s) h1 h2 (put_stop s)
theorem wait2(C:Scp P n Q)(h:Simu n Q m W T):Gx true n Q rg (m+999999) lo hi 1 W T (Wa X (D+2) (rd false P) x W) (Wa X (D+2) (rd true P) x T):=by
 obtain⟨h1,h2,g⟩:=note2 (X:=X) (D:=D) (r:=.tup [.str 22,.int x]) (lo:=lo) (hi:=hi) C h .one
 induction g with
 |go s mv=>
  obtain⟨i,j,c,h3,h4,h5,h6,_⟩:=s.pt ⟨QE (by decide) h.vs.n3,C.q1⟩ rg0
  obtain⟨_,_,p1,p2,s2,mv2⟩:=put2 (X:=X) (D:=D) (P:=P) (lo:=lo) (hi:=hi) s ⟨QE (by decide) h.vs.n3,C.q1⟩ (rg_mod (c+1))
  exact .mk (wait_ok h1 h3 h4 p1) (wait_ok h2 h5 h6 p2) (s2.hrd▸.go (rg_mod _) s2 (mv.trans mv2))
 |ff k q=>
  obtain⟨i,c,a1,a2,_⟩:=k.vs.look (l:=1) (QE (by decide) h.vs.n3)
  obtain⟨j,c',b1,b2,_⟩:=k.vt.look (l:=1) (QE (by decide) h.vs.n3)
  exact .mk (wait_ok h1 a1 a2 (put_stop k.ss)) (wait_ok h2 b1 b2 (put_stop k.st)) (.ff (rg_mod _) (rg_mod _) k q)
theorem Env.ns{P:RP}(E:Env P n){k:Int}{ls:List Nat}(h:∀l,l∈ls↔P.of[l]?=some (.int k)∧k≠0):∀l∈ls,l < n∧l≠1∧l≠2:=by
 intro l hl
 obtain⟨h1,h2⟩:=(h l).mp hl
 refine⟨E.len▸(Qc.mp h1).1,?_,?_⟩
 ·rintro rfl;exact h2 (vint (h1.symm.trans E.of1))
 ·rintro rfl;exact h2 (vint (h1.symm.trans E.of2))
theorem beginS(E:Env P n){k:Int}{b:Bool}(s:W.stop=true)(h:Vd n W):∃W',Bg X (D+2) (rd b P) k W W'∧Frz n W W':=by
 obtain⟨ls,h1,h2⟩:=E.win k
 have h3:=E.ns h2
 exact⟨_,begin_ok h1 fun l hl=>h.len.symm▸(h3 l hl).1,.rns s h fun l hl=>(h3 l hl).2⟩
theorem begin2(E:Env P n){k:Int}{R:Nat→Prop}(h:Simu n Q m W T)(hq:∀a,R a→Q a∨P.of[a]?=some (.int k)∧k≠0):∃W' T',Bg X (D+2) (rd false P) k W W'∧Bg X (D+2) (rd true P) k T T'∧Simu n R m W' T'∧Mv lo hi 0 W T W' T':=by
 obtain⟨ls,h1,h2⟩:=E.win k
 have h3:=E.ns h2
 have e:∀{W:RW} {ls:List Nat},(rnAll ls W).caught=W.caught∧(rnAll ls W).heard=W.heard∧(rnAll ls W).held=W.held:=fun{W ls}=>by
  induction ls generalizing W with
  |nil=>exact⟨rfl,rfl,rfl⟩
  |cons l ls ih=>exact ih (W:=rn l 0 W)
 exact⟨_,_,begin_ok h1 fun l hl=>h.vs.len.symm▸(h3 l hl).1,begin_ok h1 fun l hl=>h.vt.len.symm▸(h3 l hl).1,h.rns (fun l hl=>(h3 l hl).1) fun a k=>(hq a k).imp (fun z=>z) (h2 a).mpr,e.1,by rw[e.2.1];exact Int.le_of_eq (Int.add_zero _),fun k _=>by rw[e.2.2]⟩
theorem Kp.ints{ls r:List V}(h:Kp ls W r T):∃is:List Int,r=is.map .int:=by
 induction h with
 |nil=>exact⟨[],rfl⟩
 | @old _ _ _ _ _ m _ _ _ _ _ _ ih=>exact ih.elim fun is e=>⟨m::is,by rw[e];rfl⟩
 | @new _ _ w _ _ _ _ _ _ _ _ _ _ ih=>exact ih.elim fun is e=>⟨(w.cells.length:Int)::is,by rw[e];rfl⟩
theorem kept2{f:Nat}{ls:List Nat}(h:Simu n Q (m+41) W T)(hg:P.gr[f]?=some (.tup (lidV ls)))(hq:∀l∈ls,l < n∧Q l)(h40:ls.length≤40):∃W' T',Runs X (D+1) 767 [.ref 19,.int (.ofNat f)] (rs (rd false P) W) (.none,rs (rd false P) W')∧Runs X (D+1) 767 [.ref 19,.int (.ofNat f)] (rs (rd true P) T) (.none,rs (rd true P) T')∧Simu n Q m W' T'∧Mv lo hi 0 W T W' T':=by
 obtain⟨r,W₁,T₁,k1,k2,s,mv⟩:=keeps (m:=m+1) (lo:=lo) (hi:=hi) (h.less (by lia)) hq
 have hl:(lidV ls).length≤LIM:=by unfold lidV;rw[List.length_map];exact Nat.le_trans h40 (by decide)
 have hl2:=s.lims.1
 obtain⟨is,rfl⟩:=k1.ints
 exact⟨_,_,kept_go h.ss hg k1 hl hl2,kept_go h.st hg k2 hl (s.log▸hl2),s.lg (.row is),⟨mv.cau,mv.hrd,mv.hld⟩⟩
end
noncomputable abbrev zz(d:Bool):Nat:=@Bool.rec (fun _=>Nat) 0 999000 d
noncomputable abbrev di(d:Bool):Int:=@Bool.rec (fun _=>Int) 0 1 d
theorem zz_or(d d':Bool):zz (d||d')≤zz d+zz d':=by induction d<;>induction d'<;>decide
theorem di_or(d d':Bool):di (d||d')≤di d+di d':=by induction d<;>induction d'<;>decide
theorem zz_0(d:Bool):zz d≤zz (d||false):=by induction d<;>decide
theorem di_0(d:Bool):di d≤di (d||false):=by induction d<;>decide
noncomputable abbrev N0:V:=flow 0 .none
noncomputable abbrev N5:V:=flow 5 .none
section
variable {α:Type}(j:Bool)(X:Wd)(P:RP)(n:Nat)(Q:Nat→Prop)(D:Nat)(g:α→Prop)
inductive OX(m:Nat)(lo hi d:Int)(pre:List V)(R:RW→α→RW→Prop)(W T:RW)(x:α)(W':RW):Prop
 |go {T₁ T₂}:Row X D (rd true P) pre T N0 T₁→T₁.stop=false→Hk lo hi T T₁→R T₁ x T₂→Simu n Q m W' T₂→Mv lo hi d W T W' T₂→OX m lo hi d pre R W T x W'
 |late {T₁ y T₂}:Row X D (rd true P) pre T N0 T₁→T₁.stop=false→Hk lo hi T T₁→R T₁ y T₂→g y→FF n W.caught W' T₂→Jn j T₂.held.length→OX m lo hi d pre R W T x W'
 |dead {f T₁}:Row X D (rd true P) pre T f T₁→(f=N0∨f=N5)→FF n W.caught W' T₁→OX m lo hi d pre R W T x W'
inductive OY(m:Nat)(lo hi d:Int)(pre:List V)(S R:RW→α→RW→Prop)(W T:RW):Prop
 |mk {x W'}:S W x W'→g x→OX j X P n Q D g m lo hi d pre R W T x W'→OY m lo hi d pre S R W T
inductive Zs(S:RW→α→RW→Prop)(W:RW):Prop
 |mk {x W'}:S W x W'→g x→Frz n W W'→Zs S W
structure SX(w:Nat)(lo hi:Int)(d:Bool)(pre:List V)(S:Bool→RW→α→RW→Prop)(R:RW→α→RW→Prop):Prop where
 run:∀m W T,Simu n Q (m+w) W T→OY j X P n Q D g (m+zz d) lo hi (di d) pre (S false) R W T
 stop:∀b W,W.stop=true→Vd n W→Zs n g (S b) W
end
section
variable {α β:Type}{j:Bool}{X:Wd}{P:RP}{n:Nat}{Q:Nat→Prop}{D D' m w w':Nat}{g:α→Prop}{g':β→Prop}{lo hi lo' hi':Int}{d d':Bool}{pre:List V}{S S':Bool→RW→α→RW→Prop}{R R':RW→α→RW→Prop}{S₂:Bool→RW→β→RW→Prop}{R₂:RW→β→RW→Prop}{K:Bool→α→RW→β→RW→Prop}{L:α→RW→β→RW→Prop}{W T:RW}
theorem SX.map(h:SX j X P n Q D g w lo hi d pre S R)(l:D≤D')(hs:∀{b W x W'},S b W x W'→S' b W x W')(hr:∀{W x W'},R W x W'→R' W x W'):SX j X P n Q D' g w lo hi d pre S' R':=
 ⟨fun m W T s=>(h.run m W T s).rec fun a b c=>.mk (hs a) b (c.rec (fun a b c d e f=>.go (a.le l) b c (hr d) e f) (fun a b c d e f g=>.late (a.le l) b c (hr d) e f g) fun a b c=>.dead (a.le l) b c),fun b W s v=>(h.stop b W s v).rec fun a b c=>.mk (hs a) b c⟩
theorem SX.wide(h:SX j X P n Q D g w lo hi d pre S R)(h1:w≤w')(h2:lo'≤lo)(h3:hi≤hi')(h4:zz d'≤zz d)(h5:di d'≤di d):SX j X P n Q D g w' lo' hi' d' pre S R:=
 ⟨fun m W T s=>(h.run m W T (s.less (QK h1 m))).rec fun a b c=>.mk a b (c.rec (fun a b c d e f=>.go a b (c.wide h2 h3) d (e.less (QK h4 m)) (f.wide h2 h3 h5)) (fun a b c d e f g=>.late a b (c.wide h2 h3) d e f g) fun a b c=>.dead a b c),h.stop⟩
theorem SX.dir(h:∀m W T,Simu n Q (m+w) W T→Gx j n Q g (m+zz d) lo hi (di d) W T (S false W) (R T))(h2:∀b W,W.stop=true→Vd n W→Zs n g (S b) W):SX j X P n Q D g w lo hi d [] S R:=
 ⟨fun m W T s=>(h m W T s).rec fun a b c=>by
  induction c with
  |go g0 s1 mv=>exact .mk a g0 (.go .nil s.st .refl b s1 mv)
  |ff g1 g2 k q=>exact .mk a g1 (.late .nil s.st .refl b g2 k q),h2⟩
theorem FF.cast{c c':List V}(h:FF n c W T)(e:c=c'):FF n c' W T:=e▸h
theorem SX.bindS(h:SX j X P n Q D g w lo hi d pre S R)(js:∀{W x W₁ y W₂},W.stop=false→S false W x W₁→K false x W₁ y W₂→S₂ false W y W₂)(jr:∀{W x W₁ y W₂},W.stop=false→R W x W₁→L x W₁ y W₂→R₂ W y W₂)
  (go:∀m x W T,g x→Simu n Q (m+w') W T→Gx j n Q g' (m+zz d') lo hi (di d') W T (K false x W) (L x T))
  (ks:∀x W,g x→W.stop=true→Vd n W→Zs n g' (fun W=>K false x W) W) (kt:∀x W,g x→W.stop=true→Vd n W→Zs n g' (fun W=>L x W) W) (st:∀b W,W.stop=true→Vd n W→Zs n g' (S₂ b) W):SX j X P n Q D g' (w+w') lo hi (d||d') pre S₂ R₂:=by
 refine⟨fun m W T s=>?_,st⟩
 obtain⟨a,gx,o⟩:=h.run (m+w') W T (s.less (QT (by lia)))
 induction o with
 |go r1 r2 r3 r4 s1 mv=>
  obtain⟨k1,k2,o⟩:=go (m+zz d) _ _ _ gx (s1.less (QT (by lia)))
  induction o with
  |go gy s2 mv2=>exact .mk (js s.ss a k1) gy (.go r1 r2 r3 (jr r2 r4 k2) (s2.less (by have:=zz_or d d';lia)) ((mv.trans mv2).wide (Qa _) (Qa _) (di_or d d')))
  |ff g1 g2 k q=>exact .mk (js s.ss a k1) g1 (.late r1 r2 r3 (jr r2 r4 k2) g2 (k.cast mv.cau) q)
 |late r1 r2 r0 r3 gy k q=>
  obtain⟨k1,g1,z1⟩:=ks _ _ gx k.ss k.vs
  obtain⟨k2,g2,z2⟩:=kt _ _ gy k.st k.vt
  exact .mk (js s.ss a k1) g1 (.late r1 r2 r0 (jr r2 r3 k2) g2 (k.step z1 z2) (z2.hld▸q))
 |dead r1 r2 k=>
  obtain⟨k1,g1,z1⟩:=ks _ _ gx k.ss k.vs
  exact .mk (js s.ss a k1) g1 (.dead r1 r2 (k.step z1 k.ft))
theorem SX.bind(h:SX j X P n Q D g w lo hi d pre S R)(js:∀{b W x W₁ y W₂},S b W x W₁→K b x W₁ y W₂→S₂ b W y W₂)(jr:∀{W x W₁ y W₂},R W x W₁→L x W₁ y W₂→R₂ W y W₂)
  (go:∀m x W T,g x→Simu n Q (m+w') W T→Gx j n Q g' (m+zz d') lo hi (di d') W T (K false x W) (L x T))
  (ks:∀b x W,g x→W.stop=true→Vd n W→Zs n g' (fun W=>K b x W) W) (kt:∀x W,g x→W.stop=true→Vd n W→Zs n g' (fun W=>L x W) W):SX j X P n Q D g' (w+w') lo hi (d||d') pre S₂ R₂:=
 h.bindS (g':=g') (K:=K) (L:=L) (fun _=>js) (fun _=>jr) go (ks false) kt fun b W s v=>(h.stop b W s v).rec fun a gx z=>(ks b _ _ gx z.st z.vd).rec fun k1 g1 z1=>.mk (js a k1) g1 (z.trans z1)
theorem SX.bind0(h:SX j X P n Q D g w lo hi d pre S R)(js:∀{b W x W₁ y W₂},S b W x W₁→K b x W₁ y W₂→S₂ b W y W₂)(jr:∀{W x W₁ y W₂},R W x W₁→L x W₁ y W₂→R₂ W y W₂)
  (go:∀m x W T,g x→Simu n Q m W T→Gx j n Q g' m lo hi 0 W T (K false x W) (L x T))
  (ks:∀b x W,g x→W.stop=true→Vd n W→Zs n g' (fun W=>K b x W) W) (kt:∀x W,g x→W.stop=true→Vd n W→Zs n g' (fun W=>L x W) W):SX j X P n Q D g' w lo hi d pre S₂ R₂:=
 (h.bind (w':=0) (d':=false) (g':=g') (S₂:=S₂) (R₂:=R₂) (K:=K) (L:=L) js jr go ks kt).wide (Qd _) (Qa _) (Qa _) (zz_0 d) (di_0 d)
theorem SX.free(h:SX j X P n Q D g w lo hi d pre S R):SX false X P n Q D g w lo hi d pre S R:=
 ⟨fun m W T s=>(h.run m W T s).rec fun a b c=>.mk a b (c.rec (fun a b c d e f=>.go a b c d e f) (fun a b c d e f _=>.late a b c d e f trivial) fun a b c=>.dead a b c),h.stop⟩
end
noncomputable abbrev XE(X:Wd)(P:RP)(n:Nat)(Q:Nat→Prop)(D w:Nat)(lo hi:Int)(d:Bool)(pre:List V)(e e':V):Prop:=SX true X P n Q D rg w lo hi d pre (fun b=>Ev X D (rd b P) e) (Ev X D (rd true P) e')
noncomputable abbrev XA(X:Wd)(P:RP)(n:Nat)(Q:Nat→Prop)(D w:Nat)(lo hi:Int)(d:Bool)(pre as as':List V):Prop:=SX true X P n Q D (fun _:List Int=>True) w lo hi d pre (fun b=>Evs X D (rd b P) as) (Evs X D (rd true P) as')
noncomputable abbrev tloc(k:Int)(l:Nat):V:=.tup [.int 2,.int k,.int (.ofNat l)]
noncomputable abbrev tslot(k j:Int):V:=.tup [.int 91,.int k,.int j]
noncomputable abbrev thold(j:Int)(e:V):V:=.tup [.int 94,.int j,e]
noncomputable abbrev taw(j:Int)(e:V):V:=.tup [.int 93,.tup [.int 95,.int j,e]]
noncomputable abbrev tcall(k m:Int)(as:List V):V:=.tup [.int 8,.int k,.none,.tup [.int 16,.int m,.tup []],.tup as,.int 0]
noncomputable abbrev tasg(l:Nat)(e:V):V:=.tup [.int 22,.int 7,tloc 7 l,e]
noncomputable abbrev tlam(f:Nat):V:=.tup [.int 24,.int 16,.int (.ofNat f)]
inductive HeldIs(j:Int)(W:RW)(x:Int):RW→Prop
 |mk:lookA W.held j=some (.int x)→HeldIs j W x W
section
variable {α β:Type}{X:Wd}{P:RP}{n:Nat}{Q:Nat→Prop}{D m w l:Nat}{lo hi k c j z:Int}{d:Bool}{pre as as':List V}{W T:RW}{e e':V}{g:α→Prop}{jb:Bool}{S:Bool→RW→α→RW→Prop}{R:RW→α→RW→Prop}
theorem SX.undir(h:SX jb X P n Q D g w lo hi d [] S R)(s:Simu n Q (m+w) W T):Gx jb n Q g (m+zz d) lo hi (di d) W T (S false W) (R T):=by
 obtain⟨a,gx,o⟩:=h.run m W T s
 induction o with
 |go r1 r2 r3 r4 s1 mv=>cases r1;exact .mk a r4 (.go gx s1 mv)
 |late r1 r2 _ r3 gy k q=>cases r1;exact .mk a r3 (.ff gx gy k q)
 |dead r1 r2 k=>cases r1;exact absurd (k.st.symm.trans s.st) (by decide)
theorem ex_const(hc:rg c):XE X P n Q (D+1) 0 lo hi false [] (.tup [.int 1,.int k,.int c]) (.tup [.int 1,.int k,.int c]):=
 .dir (fun _ _ _ s=>.mk ev_const ev_const (.go hc s .refl)) fun _ _ s h=>.mk ev_const hc (.refl s h)
theorem ex_hole:XE X P n Q (D+1) 0 lo hi false [] (.tup [.int 32,.int k]) (.tup [.int 32,.int k]):=
 .dir (fun _ _ _ s=>.mk ev_hole (s.hol▸ev_hole) (.go s.vs.hol s .refl)) fun _ _ s h=>.mk ev_hole h.hol (.refl s h)
theorem locS(b:Bool)(h:Vd n W)(hl:l < n):∃x,rg x∧Ev X (D+1) (rd b P) (tloc 7 l) W x W:=by
 obtain⟨i,x,h1,h2,h3⟩:=h.look hl
 exact⟨x,h3,ev_loc h1 h2⟩
theorem loc2(s:Simu n Q m W T)(hl:l < n∧Q l):∃x,rg x∧Ev X (D+1) (rd false P) (tloc 7 l) W x W∧Ev X (D+1) (rd true P) (tloc 7 l) T x T:=by
 obtain⟨f,p⟩:=s.mp
 obtain⟨i,x,h1,h2,h3,h4⟩:=p.look hl
 exact⟨x,s.vt.val x (Qz h2),ev_loc h3 h4,ev_loc h1 h2⟩
theorem ex_loc(hl:l < n∧Q l):XE X P n Q (D+1) 0 lo hi false [] (tloc 7 l) (tloc 7 l):=
 .dir (fun _ _ _ s=>(loc2 s hl).elim fun _ h=>.mk h.2.1 h.2.2 (.go h.1 s .refl)) fun b _ s h=>(locS b h hl.1).elim fun _ q=>.mk q.2 q.1 (.refl s h)
theorem ex_lam{f:Nat}{ls:List Nat}(hg:P.gr[f]?=some (.tup (lidV ls)))(hq:∀l∈ls,l < n∧Q l)(h40:ls.length≤40):XE X P n Q (D+2) 41 lo hi false [] (tlam f) (tlam f):=
 .dir (fun _ _ _ s=>(kept2 s hg hq h40).elim fun _ h=>h.elim fun _ h=>.mk (ev_lam h.1) (ev_lam h.2.1) (.go rg0 h.2.2.1 h.2.2.2)) fun _ _ s h=>.mk (ev_lam (kept_stop s)) rg0 (.refl s h)
theorem ex_asg(hl:l < n∧Q l)(h:XE X P n Q (D+1) w lo hi d pre e e'):XE X P n Q (D+2) w lo hi d pre (tasg l e) (tasg l e'):=
 (h.bind0 (g':=rg) (S₂:=fun b=>Ev X (D+2) (rd b P) (tasg l e)) (R₂:=Ev X (D+2) (rd true P) (tasg l e')) (K:=fun b x W y W'=>y=x∧Pu X (D+1) (rd b P) l x W W') (L:=fun x W y W'=>y=x∧Pu X (D+1) (rd true P) l x W W')
  (fun h1 h2=>h2.1▸ev_asg h1 h2.2) (fun h1 h2=>h2.1▸ev_asg h1 h2.2)
  (fun _ _ _ _ hx s=>(put2 s hl hx).elim fun _ h=>h.elim fun _ h=>.mk ⟨rfl,h.1⟩ ⟨rfl,h.2.1⟩ (.go hx h.2.2.1 h.2.2.2))
  (fun _ _ _ hx s h=>.mk ⟨rfl,put_stop s⟩ hx (.refl s h)) fun _ _ hx s h=>.mk ⟨rfl,put_stop s⟩ hx (.refl s h)).map (Qn _) (fun h=>h) fun h=>h
theorem ex_await(C:Scp P n Q)(hl:l < n∧Q l)(h1:lo < j)(h2:j≤hi):SX true X P n Q (D+4) rg 1 lo hi true [taw j (tloc 7 l)] (fun b=>Ev X (D+4) (rd b P) (.tup [.int 30,.int k,tloc 7 l])) (HeldIs j):=by
 refine⟨fun m W T s=>?_,fun b W s h=>?_⟩
 ·obtain⟨x,hx,a,b⟩:=loc2 (X:=X) (D:=D) (P:=P) s hl
  obtain⟨w1,w2,o⟩:=wait2 (X:=X) (D:=D) (P:=P) (x:=x) (lo:=lo) (hi:=hi) C s
  induction o with
  |go hy s1 mv=>exact .mk (ev_await rfl (a.le (by lia)) (w1.le (by lia))) hy (.go (.go (x_aw .cut s.st (b.le (by lia)) (w2.le (by lia)) s1.lims.2.2.1) .nil) s1.st (mv.hld.trans (keep_hd h1 h2)) ⟨sto_self⟩ (Simu.hd (s1.less (m':=m+999000+1) (by lia))) ⟨mv.cau,mv.hrd,mv.hld.trans (keep_hd h1 h2)⟩)
  |ff hx hy k q=>exact .mk (ev_await rfl (a.le (by lia)) (w1.le (by lia))) hx (.dead (.go (x_aw .cut s.st (b.le (by lia)) (w2.le (by lia)) q) .nil) (.inl rfl) ⟨k.ss,k.st,k.vs,k.vt.hd,k.cs,k.ct,k.ob⟩)
 ·obtain⟨x,hx,a⟩:=locS (X:=X) (D:=D) (P:=P) b h hl.1
  have q:=waitS (X:=X) (D:=D) (P:=rd b P) (x:=x) s h
  induction b with
  |false=>exact .mk (ev_await rfl (a.le (by lia)) (q.le (by lia))) (rg_mod _) (.refl s h)
  |true=>exact .mk (ev_left rfl (note_stop s) (a.le (by lia)) (q.le (by lia))) (rg_mod _) (.refl s h)
theorem ex_slot(h:SX true X P n Q (D+1) rg w lo hi d pre (fun b=>Ev X (D+1) (rd b P) e) (HeldIs j)):XE X P n Q (D+1) w lo hi d pre e (tslot k j):=h.map (Qd _) (fun h=>h) fun h=>h.rec fun h=>ev_slot h
end
theorem Evs.le{X:Wd}{d d':Nat}{P:RP}{as:List V}{W W':RW}{xs:List Int}(h:Evs X d P as W xs W')(l:d≤d'):Evs X d' P as W xs W':=by
 induction h with
 |nil=>exact .nil
 |cons h _ ih=>exact .cons (h.le l) ih
section
variable {X:Wd}{P:RP}{n:Nat}{Q:Nat→Prop}{D D' m w w' l:Nat}{lo hi k c j z:Int}{d d':Bool}{pre as as':List V}{W T:RW}{e e':V}
theorem as_nil:XA X P n Q D 0 lo hi false [] [] []:=.dir (fun _ _ _ s=>.mk .nil .nil (.go trivial s .refl)) fun _ _ s h=>.mk .nil trivial (.refl s h)
theorem as_cons(h:XE X P n Q D w lo hi d pre e e')(h2:XA X P n Q D w' lo hi d' [] as as):XA X P n Q D (w+w') lo hi (d||d') pre (e::as) (e'::as):=
 h.bind (g':=fun _:List Int=>True) (S₂:=fun b=>Evs X D (rd b P) (e::as)) (R₂:=Evs X D (rd true P) (e'::as)) (K:=fun b x W ys W'=>∃xs,ys=x::xs∧Evs X D (rd b P) as W xs W') (L:=fun x W ys W'=>∃xs,ys=x::xs∧Evs X D (rd true P) as W xs W')
  (fun h1 h2=>h2.elim fun _ h=>h.1▸.cons h1 h.2) (fun h1 h2=>h2.elim fun _ h=>h.1▸.cons h1 h.2)
  (fun m x W T _ s=>by
   obtain⟨a,b,o⟩:=h2.undir s
   induction o with
   |go g s1 mv=>exact .mk ⟨_,rfl,a⟩ ⟨_,rfl,b⟩ (.go trivial s1 mv)
   |ff g1 g2 k q=>exact .mk ⟨_,rfl,a⟩ ⟨_,rfl,b⟩ (.ff trivial trivial k q))
  (fun b _ W _ s h=>(h2.stop b W s h).rec fun a _ z=>.mk ⟨_,rfl,a⟩ trivial z) fun _ W _ s h=>(h2.stop true W s h).rec fun a _ z=>.mk ⟨_,rfl,a⟩ trivial z
theorem as_held(hl:l < n∧Q l)(h1:lo < j)(h2:j≤hi)(h:XA X P n Q (D+2) w j hi d pre as as'):XA X P n Q (D+2) (1+w) lo hi d (thold j (tloc 7 l)::pre) (tloc 7 l::as) (tslot 7 j::as'):=by
 refine⟨fun m W T s=>?_,fun b W s v=>?_⟩
 ·obtain⟨x,hx,a,b⟩:=loc2 (X:=X) (D:=D) (P:=P) s hl
  have r0:Xs X (D+2) (rd true P) (thold j (tloc 7 l)) T N0 (hd j x T):=x_hold (.same rfl) s.st b s.lims.2.2.1
  have k0:Hk lo hi T (hd j x T):=keep_hd h1 h2
  obtain⟨a2,_,o⟩:=h.run m W (hd j x T) (Simu.hd (s.less (by lia)))
  have a':=Evs.cons (a.le (Qn _)) a2
  induction o with
  |go r1 r2 r3 r4 s1 mv=>
   have k3:=k0.trans (r3.wide (Int.le_of_lt h1) (Qa _))
   exact .mk a' trivial (.go (.go r0 r1) r2 k3 (.cons (ev_slot ((r3 j (.inl (Qa _))).trans sto_self)) r4) s1 ⟨mv.cau,mv.hrd,k0.trans (mv.hld.wide (Int.le_of_lt h1) (Qa _))⟩)
  |late r1 r2 r3 r4 gy k q=>exact .mk a' trivial (.late (.go r0 r1) r2 (k0.trans (r3.wide (Int.le_of_lt h1) (Qa _))) (.cons (ev_slot ((r3 j (.inl (Qa _))).trans sto_self)) r4) trivial k q)
  |dead r1 r2 k=>exact .mk a' trivial (.dead (.go r0 r1) r2 k)
 ·obtain⟨x,hx,a⟩:=locS (X:=X) (D:=D) (P:=P) b v hl.1
  obtain⟨a2,_,z⟩:=h.stop b W s v
  exact .mk (.cons (a.le (Qn _)) a2) trivial z
theorem ex_call(C:Scp P n Q)(h:XA X P n Q (D+1) w lo hi d pre as as'):XE X P n Q (D+2) w lo hi true pre (tcall k c as) (tcall k c as'):=
 ((h.bind (w':=0) (d':=true) (g':=rg) (S₂:=fun b=>Ev X (D+2) (rd b P) (tcall k c as)) (R₂:=Ev X (D+2) (rd true P) (tcall k c as')) (K:=fun b xs W y W'=>y=(W'.heard*3+c) % 4∧Nt X (D+1) (rd b P) (.tup [.str 23,.int c,.flist (xs.map .int)]) W W') (L:=fun xs W y W'=>y=(W'.heard*3+c) % 4∧Nt X (D+1) (rd true P) (.tup [.str 23,.int c,.flist (xs.map .int)]) W W')
  (fun h1 h2=>h2.1▸ev_call h1 h2.2) (fun h1 h2=>h2.1▸ev_call h1 h2.2)
  (fun m x W T _ s=>by
   obtain⟨a,b,o⟩:=note2 (X:=X) (D:=D) (r:=.tup [.str 23,.int c,.flist (x.map .int)]) (lo:=lo) (hi:=hi) C s (.row x)
   induction o with
   |go s1 mv=>exact .mk ⟨rfl,a⟩ ⟨rfl,b⟩ (by rw[s1.hrd];exact .go (rg_mod _) (s1.less (by lia)) mv)
   |ff k q=>exact .mk ⟨rfl,a⟩ ⟨rfl,b⟩ (.ff (rg_mod _) (rg_mod _) k q))
  (fun _ _ _ _ s h=>.mk ⟨rfl,note_stop s⟩ (rg_mod _) (.refl s h)) fun _ _ _ s h=>.mk ⟨rfl,note_stop s⟩ (rg_mod _) (.refl s h)).map (Qn _) (fun h=>h) fun h=>h).wide (Qd _) (Qa _) (Qa _) (by cases d<;>decide) (by cases d<;>decide)
end
inductive Fv:V→Prop
 |next:Fv N0
 |brk:Fv (flow 1 .none)
 |cont:Fv (flow 2 .none)
 |ret0:Fv (flow 3 .none)
 |ret {x}:Fv (flow 3 (.int x))
 |thr {x}:rg x→Fv (flow 4 (.int x))
 |stop:Fv N5
inductive Zc:V→Prop
 |z:Zc N0
 |k {k v}:(k != 0)=true→Zc (flow k v)
inductive Lc:V→Prop
 |go {k v}:Nx k→Lc (flow k v)
 |out {k v f}:Ox k→EndR (flow k v) f→Fv f→Lc (flow k v)
inductive Bc(c:Int):V→Prop
 |mk {t l}:Bare t (.tup (.int c::l))→Bc c t
inductive Ok1:List V→Prop
 |len {ss}:(((ss.length:Nat):Int)==1)=false→Ok1 ss
 |one {x c}:Bc c x→(c==6)=false→Ok1 [x]
inductive Bt(c:Int)(t:V):Prop
 |mk {c'}:Bc c' t→(c'==6)=false∨c=6→Bt c t
noncomputable abbrev tblk(ss:List V)(k:Int):V:=.tup [.int 3,.tup ss,.int k]
theorem Fv.zc{f:V}(h:Fv f):Zc f:=by
 induction h with
 |next=>exact .z
 |_=>exact .k rfl
theorem Fv.lc{f:V}(h:Fv f):Lc f:=by
 induction h with
 |next=>exact .go (.inl rfl)
 |cont=>exact .go (.inr rfl)
 |brk=>exact .out rfl .brk .next
 |ret0=>exact .out rfl (.no rfl) .ret0
 |ret=>exact .out rfl (.no rfl) .ret
 |thr h=>exact .out rfl (.no rfl) (.thr h)
 |stop=>exact .out rfl (.no rfl) .stop
noncomputable abbrev XT(X:Wd)(P:RP)(n:Nat)(Q:Nat→Prop)(D w:Nat)(lo hi:Int)(s t:V):Prop:=SX false X P n Q D Fv w lo hi false [] (fun b=>Xs X D (rd b P) s) (Xs X D (rd true P) t)
structure XS(X:Wd)(P:RP)(n:Nat)(Q:Nat→Prop)(D w:Nat)(lo hi:Int)(c:Int)(s t:V):Prop where
 r:XT X P n Q D w lo hi s t
 bs:Bc c s
 bt:Bt c t
structure XR(X:Wd)(P:RP)(n:Nat)(Q:Nat→Prop)(D w:Nat)(lo hi:Int)(ss ts:List V):Prop where
 r:SX false X P n Q D Fv w lo hi false [] (fun b=>Row X D (rd b P) ss) (Row X D (rd true P) ts)
 stp:∀W,W.stop=true→Vd n W→Zs n Fv (Row X D (rd true P) ts) W
 len:ss.length=ts.length
inductive Sq(S U:RW→V→RW→Prop)(W:RW):V→RW→Prop
 |go {W₁ f W'}:S W N0 W₁→U W₁ f W'→Sq S U W f W'
 |out {k v W'}:S W (flow k v) W'→(k != 0)=true→Sq S U W (flow k v) W'
section
variable {X:Wd}{P:RP}{n:Nat}{Q:Nat→Prop}{D D' m w w' l:Nat}{lo hi lo' hi' k c c' j z:Int}{b d d':Bool}{pre as as' ss ts:List V}{W W₁ W₂ T:RW}{e e' s s' t f:V}{g:V→Prop}{S U:Bool→RW→V→RW→Prop}{R V':RW→V→RW→Prop}
theorem Bc.stop(h:Bc c t)(hs:W.stop=true):Xs X (D+2) P t W N5 W:=by
 obtain⟨h⟩:=h
 exact x_stop h hs
theorem Bt.stop(h:Bt c t)(hs:W.stop=true):Xs X (D+2) P t W N5 W:=by
 obtain⟨h,_⟩:=h
 exact h.stop hs
theorem Bt.zs(h:Bt c t)(hs:W.stop=true)(v:Vd n W):Zs n Fv (Xs X (D+2) P t) W:=.mk (h.stop hs) .stop (.refl hs v)
theorem Bc.zs(h:Bc c t)(hs:W.stop=true)(v:Vd n W):Zs n Fv (Xs X (D+2) P t) W:=.mk (h.stop hs) .stop (.refl hs v)
theorem Row.app(h:Row X D P ss W f W₁):f=N0→Row X D P ts W₁ e W₂→Row X D P (ss++ts) W e W₂:=by
 induction h with
 |nil=>exact fun _ h=>h
 |go h _ ih=>exact fun e h2=>.go h (ih e h2)
 |out h k=>exact fun e _=>by injection e with e;injection e with e1;injection e1 with e1;subst e1;exact absurd k (by decide)
theorem Row.cut(h:Row X D P ss W f W₁):(f=N5)→Row X D P (ss++ts) W f W₁:=by
 induction h with
 |nil=>exact fun e=>by injection e with e;injection e with e1;injection e1 with e1;exact absurd e1 (by decide)
 |go h _ ih=>exact fun e=>.go h (ih e)
 |out h k=>exact fun _=>.out h k
theorem begin_0(E:Env P n):Bg X (D+2) (rd b P) 0 W W:=by
 obtain⟨ls,h1,h2⟩:=E.win 0
 have e:ls=[]:=List.eq_nil_iff_forall_not_mem.mpr fun l hl=>((h2 l).mp hl).2 rfl
 subst e
 exact begin_ok (ls:=[]) h1 fun _ hl=>nomatch hl
theorem x_blk(hb:Bare t (tblk ss k))(hs:W.stop=false)(h1:Bg X (D+2) P k W W₁)(h2:Ok1 ss)(h3:Row X (D+1) P ss W₁ f W₂):Xs X (D+4) P t W f W₂:=by
 refine x_block hb hs ?_
 induction h2 with
 |len h=>exact blk_row h1 h (row_ok h3)
 |one h hc=>obtain⟨h⟩:=h;exact blk_one h1 h hc (row_ok h3)
theorem xr_nil:XR X P n Q D 0 lo hi [] []:=⟨.dir (fun _ _ _ s=>.mk .nil .nil (.go .next s .refl)) fun _ _ s h=>.mk .nil .next (.refl s h),fun _ s h=>.mk .nil .next (.refl s h),rfl⟩
theorem SX.seq{R₂:RW→V→RW→Prop}(h:SX false X P n Q D g w lo hi d pre S R)(h2:SX false X P n Q D Fv w' lo hi d' [] U V')(hg:∀f,g f→Fv f)(ht:∀W,W.stop=true→Vd n W→Zs n Fv V' W)(hr:∀{W f W'},Sq R V' W f W'→R₂ W f W'):SX false X P n Q D Fv (w+w') lo hi d pre (fun b=>Sq (S b) (U b)) R₂:=
 (h.bind (w':=w') (d':=false) (g':=Fv) (S₂:=fun b=>Sq (S b) (U b)) (R₂:=R₂) (K:=fun b f W r W'=>f=N0∧U b W r W'∨(∃k v,f=flow k v∧(k != 0)=true)∧r=f∧W'=W) (L:=fun f W r W'=>f=N0∧V' W r W'∨(∃k v,f=flow k v∧(k != 0)=true)∧r=f∧W'=W)
  (fun h1 h2=>by
   rcases h2 with⟨rfl,h2⟩|⟨⟨k,v,rfl,h2⟩,rfl,rfl⟩
   ·exact .go h1 h2
   ·exact .out h1 h2)
  (fun h1 h2=>by
   rcases h2 with⟨rfl,h2⟩|⟨⟨k,v,rfl,h2⟩,rfl,rfl⟩
   ·exact hr (.go h1 h2)
   ·exact hr (.out h1 h2))
  (fun m x W T hx s=>by
   cases(hg _ hx).zc with
   |z=>
    obtain⟨a,b,o⟩:=(h2.wide (d':=false) (Qd _) (Qa _) (Qa _) (QC _) (by induction d'<;>decide)).undir s
    exact .mk (.inl ⟨rfl,a⟩) (.inl ⟨rfl,b⟩) o
   |k hk=>exact .mk (.inr ⟨⟨_,_,rfl,hk⟩,rfl,rfl⟩) (.inr ⟨⟨_,_,rfl,hk⟩,rfl,rfl⟩) (.go (hg _ hx) (s.less (Qw _ _)) .refl))
  (fun b x W hx s v=>by
   cases(hg _ hx).zc with
   |z=>obtain⟨a,g,z⟩:=h2.stop b W s v;exact .mk (.inl ⟨rfl,a⟩) g z
   |k hk=>exact .mk (.inr ⟨⟨_,_,rfl,hk⟩,rfl,rfl⟩) (hg _ hx) (.refl s v))
  fun x W hx s v=>by
   cases(hg _ hx).zc with
   |z=>obtain⟨a,g,z⟩:=ht W s v;exact .mk (.inl ⟨rfl,a⟩) g z
   |k hk=>exact .mk (.inr ⟨⟨_,_,rfl,hk⟩,rfl,rfl⟩) (hg _ hx) (.refl s v)).wide (Qd _) (Qa _) (Qa _) (zz_0 d) (di_0 d)
theorem sq_row(h:Sq (Xs X D P s) (Row X D P ss) W f W₁):Row X D P (s::ss) W f W₁:=by
 induction h with
 |go a b=>exact .go a b
 |out a b=>exact .out a b
theorem xr_cons(h:XS X P n Q (D+2) w lo hi c s t)(h2:XR X P n Q (D+2) w' lo hi ss ts):XR X P n Q (D+2) (w+w') lo hi (s::ss) (t::ts):=
 ⟨(h.r.seq h2.r (fun _ h=>h) h2.stp sq_row).map (Qd _) sq_row fun h=>h,fun W s v=>.mk (.out (h.bt.stop s) rfl) .stop (.refl s v),congrArg (·+ 1) h2.len⟩
end
inductive Wq(pre:List V)(s t:V):Prop
 |nil:pre=[]→t=s→Wq pre s t
 |blk:Ok1 (pre++[s])→Bare t (tblk (pre++[s]) 0)→Wq pre s t
section
variable {α:Type}{X:Wd}{P:RP}{n:Nat}{Q:Nat→Prop}{D D' m w w' l:Nat}{lo hi lo' hi' k c c' z:Int}{b d d' j:Bool}{pre ss ts:List V}{W W₁ W₂ T T₁:RW}{e e' s s' t f u u' a a':V}{S:Bool→RW→V→RW→Prop}{g:α→Prop}{F F' U U':α→RW→Prop}
theorem Gx.aft{δ:Int}(mv:Mv lo hi 0 W T W₁ T₁)(h:Gx j n Q g m lo hi δ W₁ T₁ F U)(hs:∀x W',F x W'→F' x W')(hu:∀x W',U x W'→U' x W'):Gx j n Q g m lo hi δ W T F' U':=by
 obtain⟨a,b,o⟩:=h
 induction o with
 |go gx s1 mv2=>exact .mk (hs _ _ a) (hu _ _ b) (.go gx s1 (Int.zero_add δ▸mv.trans mv2))
 |ff g1 g2 k q=>exact .mk (hs _ _ a) (hu _ _ b) (.ff g1 g2 (k.cast mv.cau) q)
theorem ok1_2{x y:V}{ss:List V}:Ok1 (x::y::ss):=.len (Zd.mpr fun e=>by rw[List.length_cons,List.length_cons]at e;lia)
theorem ok1_app(hp:ts≠[]):Ok1 (ts++[s]):=by
 induction ts with
 |nil=>exact absurd rfl hp
 |cons x ts=>
  induction ts with
  |nil=>exact ok1_2
  |cons y ts=>exact ok1_2
theorem row1(r:Xs X D P s W f W₁)(g:Zc f):Row X D P [s] W f W₁:=by
 induction g with
 |z=>exact .go r .nil
 |k hk=>exact .out r hk
noncomputable def Beg(X:Wd)(P:RP)(n:Nat)(D:Nat)(Q Q':Nat→Prop)(k:Int)(B:RW→RW→Prop):Prop:=∀m W T lo hi,Simu n Q m W T→∃W' T',B W W'∧Bg X D (rd true P) k T T'∧Simu n Q' m W' T'∧Mv lo hi 0 W T W' T'
theorem beg_0(E:Env P n)(l:2≤D):Beg X P n D Q Q 0 Eq:=fun _ W T _ _ s=>⟨W,T,rfl,(begin_0 (D:=0) E).le l,s,.refl⟩
theorem beg_k{Q':Nat→Prop}(E:Env P n)(l:2≤D)(hq:∀a,Q' a→Q a∨P.of[a]?=some (.int k)∧k≠0):Beg X P n D Q Q' k (Bg X D (rd false P) k):=fun _ _ _ _ _ s=>(begin2 (D:=0) E s hq).elim fun W' h=>h.elim fun T' h=>⟨W',T',h.1.le l,h.2.1.le l,h.2.2⟩
theorem SX.closeR{Q':Nat→Prop}{g:V→Prop}{S':Bool→RW→V→RW→Prop}{B:RW→RW→Prop}(E:Env P n)(l:D+4≤D')(hB:Beg X P n D Q Q' k B)(hq:∀a,Q a→Q' a)(h:SX false X P n Q' D g w lo hi d pre S (Row X D (rd true P) ts))(h5:g N5)(hp:∀T,T.stop=true→Row X D (rd true P) ts T N5 T)(ho:Ok1 (pre++ts))(hb:Bare t (tblk (pre++ts) k))
  (hS:∀{W W' f W₂},W.stop=false→B W W'→S false W' f W₂→S' false W f W₂) (st:∀b W,W.stop=true→Vd n W→Zs n g (S' b) W):SX false X P n Q D' g w lo hi d [] S' (Xs X D' (rd true P) t):=by
 refine⟨fun m W T sm=>?_,st⟩
 obtain⟨W0,T0,b1,b2,s0,mv0⟩:=hB (m+w) W T lo hi sm
 have hx:∀{f T'},Row X D (rd true P) (pre++ts) T0 f T'→Xs X D' (rd true P) t T f T':=fun r=>(x_blk (D:=D) hb sm.st (b2.le (by lia)) ho (r.le (by lia))).le l
 obtain⟨a,gx,o⟩:=h.run m W0 T0 s0
 have a:=hS sm.ss b1 a
 induction o with
 |go r1 r2 r3 r4 s1 mv=>exact .mk a gx (.go .nil sm.st .refl (hx (r1.app rfl r4)) (s1.mono hq (Qd _)) ((mv0.trans mv).wide (Qa _) (Qa _) (Int.le_of_eq (Int.zero_add _).symm)))
 |late r1 r2 r3 r4 gy k q=>exact .mk a gx (.late .nil sm.st .refl (hx (r1.app rfl r4)) gy (k.cast mv0.cau) trivial)
 |dead r1 r2 k=>
  rcases r2 with rfl|rfl
  ·exact .mk a gx (.late .nil sm.st .refl (hx (r1.app rfl (hp _ k.st))) h5 (k.cast mv0.cau) trivial)
  ·exact .mk a gx (.late .nil sm.st .refl (hx (r1.cut rfl)) h5 (k.cast mv0.cau) trivial)
theorem SX.row1{g:V→Prop}(h:SX false X P n Q D g w lo hi d pre S (Xs X D (rd true P) s))(hz:∀f,g f→Zc f):SX false X P n Q D g w lo hi d pre S (Row X D (rd true P) [s]):=
 h.bind0 (g':=g) (S₂:=S) (R₂:=Row X D (rd true P) [s]) (K:=fun _ f W r W'=>g f∧r=f∧W'=W) (L:=fun f W r W'=>g f∧r=f∧W'=W) (fun h1 h2=>h2.2.1▸h2.2.2▸h1) (fun h1 h2=>h2.2.1▸h2.2.2▸Mine.row1 h1 (hz _ h2.1)) (fun _ _ _ _ hf s=>.mk ⟨hf,rfl,rfl⟩ ⟨hf,rfl,rfl⟩ (.go hf s .refl)) (fun _ _ _ hf s v=>.mk ⟨hf,rfl,rfl⟩ hf (.refl s v)) fun _ _ hf s v=>.mk ⟨hf,rfl,rfl⟩ hf (.refl s v)
theorem Wq.bt(hs:Bt c s)(hw:Wq pre s t):Bt c t:=by
 induction hw with
 |nil _ ht=>exact ht▸hs
 |blk _ hb=>exact⟨⟨hb⟩,.inl rfl⟩
theorem SX.closeG{g:V→Prop}{S':Bool→RW→V→RW→Prop}(E:Env P n)(h:SX false X P n Q (D+2) g w lo hi d pre S (Xs X (D+2) (rd true P) s))(h5:g N5)(hz:∀f,g f→Zc f)(hs:Bt c s)(hw:Wq pre s t)(hS:∀{W f W'},S false W f W'→S' false W f W')(st:∀b W,W.stop=true→Vd n W→Zs n g (S' b) W):SX false X P n Q (D+6) g w lo hi d [] S' (Xs X (D+6) (rd true P) t):=by
 induction hw with
 |nil hp ht=>
  subst hp ht
  exact .dir (fun m W T sm=>(h.undir sm).rec fun a b o=>.mk (hS a) (b.le (by lia)) o) st
 |blk hp hb=>exact SX.closeR E (D:=D+2) (D':=D+6) (by lia) (beg_0 E (by lia)) (fun _ h=>h) (h.row1 hz) h5 (fun _ s=>.out (hs.stop s) rfl) hp hb (fun _ e h=>hS (e▸h)) st
theorem SX.close(E:Env P n)(h:SX false X P n Q (D+2) Fv w lo hi d pre S (Xs X (D+2) (rd true P) s))(hs:Bt c s)(hw:Wq pre s t)(hS:∀{b W f W'},S b W f W'→Xs X (D+6) (rd b P) u W f W')(hu:Bc c u):XS X P n Q (D+6) w lo hi c u t:=
 ⟨(SX.closeG (S':=fun b=>Xs X (D+6) (rd b P) u) E h .stop (fun _ h=>h.zc) hs hw hS fun _ _ s v=>hu.zs s v).wide (Qd _) (Qa _) (Qa _) (QC _) (by induction d<;>decide),hu,hw.bt hs⟩
theorem xst{K:Bool→Int→RW→V→RW→Prop}{L:Int→RW→V→RW→Prop}(E:Env P n)(h:XE X P n Q D w lo hi d pre e e')(hD:D≤D'+2)
  (js:∀{W x W₁ f W₂},W.stop=false→Ev X D (rd false P) e W x W₁→K false x W₁ f W₂→Xs X (D'+2) (rd false P) u W f W₂) (jr:∀{W x W₁ f W₂},W.stop=false→Ev X D (rd true P) e' W x W₁→L x W₁ f W₂→Xs X (D'+2) (rd true P) s W f W₂)
  (go:∀m x W T,rg x→Simu n Q (m+w') W T→Gx false n Q Fv m lo hi 0 W T (K false x W) (L x T)) (ks:∀x W,rg x→W.stop=true→Vd n W→Zs n Fv (fun W=>K false x W) W) (kt:∀x W,rg x→W.stop=true→Vd n W→Zs n Fv (fun W=>L x W) W)
  (hu:Bc c u) (hs:Bt c s) (hw:Wq pre s t):XS X P n Q (D'+6) (w+w') lo hi c u t:=
 ((h.free.bindS (g':=Fv) (d':=false) (K:=K) (L:=L) (S₂:=fun b=>Xs X (D'+2) (rd b P) u) (R₂:=Xs X (D'+2) (rd true P) s) js jr go ks kt fun _ _ s v=>hu.zs s v).map hD (fun h=>h) fun h=>h).close E hs hw (fun h=>h.le (by lia)) hu
theorem xs_block{Q':Nat→Prop}(E:Env P n)(h:XR X P n Q' (D+2) w lo hi ss ts)(hq:∀a,Q' a→Q a∨P.of[a]?=some (.int k)∧k≠0)(hq2:∀a,Q a→Q' a)(hp:∀T,T.stop=true→Row X (D+2) (rd true P) ts T N5 T)(h1:Ok1 ss)(h2:Ok1 ts)(hb:Bare t (tblk ts k)):XS X P n Q (D+6) w lo hi 3 (tblk ss k) t:=
 ⟨SX.closeR (pre:=[]) (S':=fun b=>Xs X (D+6) (rd b P) (tblk ss k)) E (D:=D+2) (D':=D+6) (by lia) (beg_k E (by lia) hq) hq2 h.r .stop hp h2 hb (fun s b q=>x_blk (D:=D+2) (.same rfl) s (b.le (by lia)) h1 (q.le (by lia))) fun _ _ s v=>Bc.zs ⟨.same rfl⟩ s v,⟨.same rfl⟩,⟨hb⟩,.inl rfl⟩
end
noncomputable abbrev t1(c:Int)(e:V):V:=.tup [.int c,e]
noncomputable abbrev t2(c i:Int)(e:V):V:=.tup [.int c,.int i,e]
inductive Xo(X:Wd)(D:Nat)(P:RP)(u:V)(W:RW):V→RW→Prop
 |no:u=.none→Xo X D P u W N0 W
 |yes {f W'}:isNv u=false→Xs X D P u W f W'→Xo X D P u W f W'
structure XO(X:Wd)(P:RP)(n:Nat)(Q:Nat→Prop)(D w:Nat)(lo hi:Int)(s t:V):Prop where
 r:SX false X P n Q D Fv w lo hi false [] (fun b=>Xo X D (rd b P) s) (Xo X D (rd true P) t)
 stp:∀W,W.stop=true→Vd n W→Zs n Fv (Xo X D (rd true P) t) W
inductive IfR(X:Wd)(D:Nat)(P:RP)(a u:V)(x:Int)(W:RW)(f:V)(W':RW):Prop
 |yes:(x % 2==1)=true→Xs X D P a W f W'→IfR X D P a u x W f W'
 |no:(x % 2==1)=false→Xo X D P u W f W'→IfR X D P a u x W f W'
section
variable {X:Wd}{P:RP}{n:Nat}{Q:Nat→Prop}{D D' m w w' l:Nat}{lo hi lo' hi' k c c' z j x:Int}{b d d':Bool}{pre ss ts:List V}{W W₁ W₂ T T₁:RW}{e e' s s' t f u u' a a':V}
theorem Bare.nn(h:Bare s (.tup ts)):isNv s=false:=by
 generalize e:V.tup ts=u at h
 induction h<;>rfl
theorem bcs(h:(c==93)=false)(h6:(c==6)=false):Bt c (.tup (.int c::ss)):=⟨⟨.same h⟩,.inl h6⟩
theorem xs_expr(E:Env P n)(h:XE X P n Q (D+1) w lo hi d pre e e')(hb:Bare s (t1 1 e'))(hw:Wq pre s t):XS X P n Q (D+6) w lo hi 1 (t1 1 e) t:=
 xst (D':=D) (w':=0) (K:=fun _ _ W f W'=>f=N0∧W'=W) (L:=fun _ W f W'=>f=N0∧W'=W) E h (Qn _) (fun s h k=>k.1▸k.2▸x_expr (.same rfl) s h) (fun s h k=>k.1▸k.2▸x_expr hb s h)
  (fun _ _ _ _ _ s=>.mk ⟨rfl,rfl⟩ ⟨rfl,rfl⟩ (.go .next s .refl)) (fun _ _ _ s v=>.mk ⟨rfl,rfl⟩ .next (.refl s v)) (fun _ _ _ s v=>.mk ⟨rfl,rfl⟩ .next (.refl s v)) ⟨.same rfl⟩ ⟨⟨hb⟩,.inl rfl⟩ hw
theorem xs_loc(E:Env P n)(hl:l < n∧Q l)(hn:isNv e=false)(hn':isNv e'=false)(h:XE X P n Q (D+1) w lo hi d pre e e')(hb:Bare s (t2 2 (.ofNat l) e'))(hw:Wq pre s t):XS X P n Q (D+6) w lo hi 2 (t2 2 (.ofNat l) e) t:=
 xst (D':=D) (w':=0) (K:=fun b x W f W'=>f=N0∧Pu X (D+1) (rd b P) l x W W') (L:=fun x W f W'=>f=N0∧Pu X (D+1) (rd true P) l x W W') E h (Qn _) (fun s h k=>k.1▸x_loc1 (.same rfl) s hn h k.2) (fun s h k=>k.1▸x_loc1 hb s hn' h k.2)
  (fun _ _ _ _ hx s=>(put2 s hl hx).elim fun _ h=>h.elim fun _ h=>.mk ⟨rfl,h.1⟩ ⟨rfl,h.2.1⟩ (.go .next h.2.2.1 h.2.2.2)) (fun _ _ _ s v=>.mk ⟨rfl,put_stop s⟩ .next (.refl s v)) (fun _ _ _ s v=>.mk ⟨rfl,put_stop s⟩ .next (.refl s v)) ⟨.same rfl⟩ ⟨⟨hb⟩,.inl rfl⟩ hw
theorem xs_ret(E:Env P n)(hn:isNv e=false)(hn':isNv e'=false)(h:XE X P n Q (D+1) w lo hi d pre e e')(hb:Bare s (t1 12 e'))(hw:Wq pre s t):XS X P n Q (D+6) w lo hi 12 (t1 12 e) t:=
 xst (D':=D) (w':=0) (K:=fun _ x W f W'=>f=flow 3 (.int x)∧W'=W) (L:=fun x W f W'=>f=flow 3 (.int x)∧W'=W) E h (Qn _) (fun s h k=>k.1▸k.2▸x_ret1 (.same rfl) s hn h) (fun s h k=>k.1▸k.2▸x_ret1 hb s hn' h)
  (fun _ _ _ _ _ s=>.mk ⟨rfl,rfl⟩ ⟨rfl,rfl⟩ (.go .ret s .refl)) (fun _ _ _ s v=>.mk ⟨rfl,rfl⟩ .ret (.refl s v)) (fun _ _ _ s v=>.mk ⟨rfl,rfl⟩ .ret (.refl s v)) ⟨.same rfl⟩ ⟨⟨hb⟩,.inl rfl⟩ hw
theorem xs_thr(E:Env P n)(hn:isNv e=false)(hn':isNv e'=false)(h:XE X P n Q (D+1) w lo hi d pre e e')(hb:Bare s (t1 13 e'))(hw:Wq pre s t):XS X P n Q (D+6) w lo hi 13 (t1 13 e) t:=
 xst (D':=D) (w':=0) (K:=fun _ x W f W'=>f=flow 4 (.int x)∧W'=W) (L:=fun x W f W'=>f=flow 4 (.int x)∧W'=W) E h (Qn _) (fun s h k=>k.1▸k.2▸x_throw1 (.same rfl) s hn h) (fun s h k=>k.1▸k.2▸x_throw1 hb s hn' h)
  (fun _ _ _ _ hx s=>.mk ⟨rfl,rfl⟩ ⟨rfl,rfl⟩ (.go (.thr hx) s .refl)) (fun _ _ hx s v=>.mk ⟨rfl,rfl⟩ (.thr hx) (.refl s v)) (fun _ _ hx s v=>.mk ⟨rfl,rfl⟩ (.thr hx) (.refl s v)) ⟨.same rfl⟩ ⟨⟨hb⟩,.inl rfl⟩ hw
theorem xs_yield(C:Scp P n Q)(h:XE X P n Q (D+1) w lo hi d pre e e')(hw:Wq pre (.tup [.int 93,t1 16 e']) t):XS X P n Q (D+6) w lo hi 16 (t1 16 e) t:=
 xst (D':=D) (w':=0) (K:=fun b x W f W'=>f=N0∧Nt X (D+1) (rd b P) (.tup [.str 24,.int x]) W W') (L:=fun x W f W'=>f=N0∧Nt X (D+1) (rd true P) (.tup [.str 24,.int x]) W W') C.env h (Qn _) (fun s h k=>k.1▸x_yield (.same rfl) s h k.2) (fun s h k=>k.1▸x_yield .cut s h k.2)
  (fun _ x _ _ _ s=>by
   obtain⟨a,b,o⟩:=note2 (X:=X) (D:=D) (r:=.tup [.str 24,.int x]) (lo:=lo) (hi:=hi) C s .one
   induction o with
   |go s1 mv=>exact .mk ⟨rfl,a⟩ ⟨rfl,b⟩ (.go .next (s1.less (by lia)) (mv.wide (Qa _) (Qa _) (by decide)))
   |ff k q=>exact .mk ⟨rfl,a⟩ ⟨rfl,b⟩ (.ff .next .next k trivial)) (fun _ _ _ s v=>.mk ⟨rfl,note_stop s⟩ .next (.refl s v)) (fun _ _ _ s v=>.mk ⟨rfl,note_stop s⟩ .next (.refl s v)) ⟨.same rfl⟩ ⟨⟨.cut⟩,.inl rfl⟩ hw
theorem xs_drop(E:Env P n)(h:SX true X P n Q (D+2) rg w lo hi d pre (fun b=>Ev X (D+2) (rd b P) e) (HeldIs j))(hk:Ok1 pre)(hb:Bare t (tblk pre 0)):XS X P n Q (D+6) w lo hi 1 (t1 1 e) t:=by
 refine⟨⟨fun m W T s=>?_,fun b W s v=>Bc.zs ⟨.same rfl⟩ s v⟩,⟨.same rfl⟩,⟨hb⟩,.inl rfl⟩
 obtain⟨a,gx,o⟩:=h.run m W T s
 have ha:=x_expr (D:=D+4) (.same rfl) s.ss (a.le (by lia))
 have hx:∀{f T'},Row X (D+2) (rd true P) pre T f T'→Xs X (D+6) (rd true P) t T f T':=fun r=>(x_blk (D:=D+1) hb s.st ((begin_0 (D:=0) E).le (by lia)) hk r).le (by lia)
 induction o with
 |go r1 r2 r3 r4 s1 mv=>obtain⟨r4⟩:=r4;exact .mk ha .next (.go .nil s.st .refl (hx r1) (s1.less (by have:=QC (zz d);lia)) (mv.wide (Qa _) (Qa _) (by induction d<;>decide)))
 |late r1 r2 r3 r4 gy k q=>obtain⟨r4⟩:=r4;exact absurd (r2.symm.trans k.st) (by decide)
 |dead r1 r2 k=>
  rcases r2 with rfl|rfl
  ·exact .mk ha .next (.late .nil s.st .refl (hx r1) .next k trivial)
  ·exact .mk ha .next (.late .nil s.st .refl (hx r1) .stop k trivial)
theorem xs_same(hc:(c==93)=false)(h6:(c==6)=false)(hf:Fv f)(h:∀b W,W.stop=false→Xs X (D+2) (rd b P) (.tup (.int c::ss)) W f W):XS X P n Q (D+2) 0 lo hi c (.tup (.int c::ss)) (.tup (.int c::ss)):=
 ⟨.dir (fun _ _ _ s=>.mk (h _ _ s.ss) (h _ _ s.st) (.go hf s .refl)) fun _ _ s v=>Bc.zs ⟨.same hc⟩ s v,⟨.same hc⟩,bcs hc h6⟩
theorem xs_rethrow(hq:Q n):XS X P n Q (D+2) 0 lo hi 13 (t1 13 .none) (t1 13 .none):=
 ⟨.dir (fun _ _ _ s=>by
  have hc:=s.cne hq
  have e:=List.getLast?_eq_some_getLast hc
  have k:=s.vs.cau _ (List.getLast_mem hc)
  generalize (_:List V).getLast hc=v at e k
  obtain⟨hv⟩:=k
  exact .mk (x_throw0 (.same rfl) s.ss e) (x_throw0 (.same rfl) s.st (s.cau▸e)) (.go (.thr hv) s .refl)) fun _ _ s v=>Bc.zs ⟨.same rfl⟩ s v,⟨.same rfl⟩,bcs rfl rfl⟩
end
section
variable {X:Wd}{P:RP}{n:Nat}{Q:Nat→Prop}{D D' m w w' l:Nat}{lo hi lo' hi' k c c' z j x y:Int}{b d d':Bool}{pre ss ts:List V}{W W₁ W₂ T T₁:RW}{e e' s s' t f u u' a a' g:V}
theorem xo_none:XO X P n Q D w lo hi .none .none:=⟨.dir (fun _ _ _ s=>.mk (.no rfl) (.no rfl) (.go .next (s.less (Qw _ _)) .refl)) fun _ _ s v=>.mk (.no rfl) .next (.refl s v),fun _ s v=>.mk (.no rfl) .next (.refl s v)⟩
theorem Bc.nn(h:Bc c s):isNv s=false:=by obtain⟨h⟩:=h;exact h.nn
theorem Bt.nn(h:Bt c s):isNv s=false:=by obtain⟨h,_⟩:=h;exact h.nn
theorem xo_some(h:XS X P n Q (D+2) w lo hi c s t):XO X P n Q (D+2) w lo hi s t:=
 ⟨h.r.map (Qd _) (fun q=>.yes h.bs.nn q) fun q=>.yes h.bt.nn q,fun _ s v=>(h.bt.zs s v).rec fun a g z=>.mk (.yes h.bt.nn a) g z⟩
theorem x_ifR(h:Bare s (.tup [.int 4,e,a,u]))(hs:W.stop=false)(h1:Ev X (D+1) P e W x W₁)(h2:IfR X (D+1) P a u x W₁ f W₂):Xs X (D+2) P s W f W₂:=by
 induction h2 with
 |yes hx h2=>exact x_if1 h hs h1 hx h2
 |no hx h2=>
  induction h2 with
  |no hu=>subst hu;exact x_if0 h hs h1 hx
  |yes hn h2=>exact x_if2 h hs h1 hx hn h2
theorem odd(x:Int):((x % 2==1)=true)∨((x % 2==1)=false):=by cases x % 2==1<;>simp
theorem xs_if(E:Env P n)(h:XE X P n Q (D+2) w lo hi d pre e e')(ha:XS X P n Q (D+2) w' lo hi c a a')(hu:XO X P n Q (D+2) w' lo hi u u')(hb:Bare s (.tup [.int 4,e',a',u']))(hw:Wq pre s t):XS X P n Q (D+7) (w+w') lo hi 4 (.tup [.int 4,e,a,u]) t:=
 xst (D':=D+1) (K:=fun b x=>IfR X (D+2) (rd b P) a u x) (L:=fun x=>IfR X (D+2) (rd true P) a' u' x) E h (by lia) (fun s h k=>x_ifR (.same rfl) s h k) (fun s h k=>x_ifR hb s h k)
  (fun _ x _ _ _ s=>by
   rcases odd x with q|q
   ·obtain⟨a,b,o⟩:=ha.r.undir s;exact .mk (.yes q a) (.yes q b) o
   ·obtain⟨a,b,o⟩:=hu.r.undir s;exact .mk (.no q a) (.no q b) o)
  (fun x W _ s v=>by
   rcases odd x with q|q
   ·exact .mk (.yes q (ha.bs.stop s)) .stop (.refl s v)
   ·obtain⟨a,b,o⟩:=hu.r.stop false W s v;exact .mk (.no q a) b o)
  (fun x W _ s v=>by
   rcases odd x with q|q
   ·exact .mk (.yes q (ha.bt.stop s)) .stop (.refl s v)
   ·obtain⟨a,b,o⟩:=hu.stp W s v;exact .mk (.no q a) b o) ⟨.same rfl⟩ ⟨⟨hb⟩,.inl rfl⟩ hw
inductive It(S:RW→V→RW→Prop):RW→V→RW→Prop
 |go {w k v w₁ g w₂}:S w (flow k v) w₁→Nx k→It S w₁ g w₂→It S w g w₂
 |out {w k v w₁ g}:S w (flow k v) w₁→Ox k→EndR (flow k v) g→It S w g w₁
inductive Fs:V→Prop
 |brk:Fs (flow 1 .none)
 |stop:Fs N5
theorem Fs.fv(h:Fs f):Fv f:=by
 induction h with
 |brk=>exact .brk
 |stop=>exact .stop
theorem it_s{S:RW→V→RW→Prop}(h:Zs n Fs S W):Zs n Fv (It S) W:=by
 obtain⟨a,hf,z⟩:=h
 induction hf with
 |brk=>exact .mk (.out a rfl .brk) .next z
 |stop=>exact .mk (.out a rfl (.no rfl)) .stop z
inductive ItO(nn:Nat)(S:RW→V→RW→Prop)(w w₁:RW):Prop
 |mk {g w₂}:It S w g w₂→Fv g→Frz nn w₁ w₂→ItO nn S w w₁
theorem it_o{S:RW→V→RW→Prop}(a:S W f W₁)(hf:Fv f)(s:W₁.stop=true)(v:Vd n W₁)(h:Zs n Fs S W₁):ItO n S W W₁:=by
 cases hf.lc with
 |go hk=>obtain⟨b,hg,z⟩:=it_s h;exact .mk (.go a hk b) hg z
 |out hk he hg=>exact .mk (.out a hk he) hg (.refl s v)
theorem SX.loop{S:Bool→RW→V→RW→Prop}{R:RW→V→RW→Prop}(h:SX false X P n Q D Fv w lo hi true [] S R)(hw:w≤999000)(hs:∀b W,W.stop=true→Vd n W→Zs n Fs (S b) W)(ht:∀W,W.stop=true→Vd n W→Zs n Fs R W):SX false X P n Q D Fv w lo hi false [] (fun b=>It (S b)) (It R):=by
 have main:∀N m W T,Simu n Q (m+w) W T→15≤W.heard+((N:Nat):Int)→Gx false n Q Fv m lo hi 0 W T (It (S false) W) (It R T):=by
  intro N
  induction N with
  |zero=>exact fun m W T s k=>absurd s.h14.2 (by lia)
  |succ N ih=>
   intro m W T s k
   obtain⟨a,b,o⟩:=h.undir s
   induction o with
   |go hf s1 mv=>
    have mv0:=mv.wide (lo':=lo) (hi':=hi) (e:=0) (Qa _) (Qa _) (by decide)
    cases hf.lc with
    |go hk=>exact Gx.aft mv0 (ih m _ _ (s1.less (QK hw m)) (by have:=mv.hrd;lia)) (fun _ _ q=>.go a hk q) fun _ _ q=>.go b hk q
    |out hk he hg=>exact .mk (.out a hk he) (.out b hk he) (.go hg (s1.less (Qw _ _)) mv0)
   |ff hf hg k q=>
    obtain⟨a2,g2,z2⟩:=it_o a hf k.ss k.vs (hs false _ k.ss k.vs)
    obtain⟨b2,g3,z3⟩:=it_o b hg k.st k.vt (ht _ k.st k.vt)
    exact .mk a2 b2 (.ff g2 g3 (k.step z2 z3) trivial)
 exact .dir (fun m W T s=>main 15 m W T s (by have:=s.h14.1;lia)) fun b W s v=>it_s (hs b W s v)
end
inductive Tf(X:Wd)(D:Nat)(P:RP)(e:V)(W:RW):V→RW→Prop
 |no {W'}:WhenR X D P W e false W'→Tf X D P e W (flow 1 .none) W'
 |yes {W'}:WhenR X D P W e true W'→Tf X D P e W N0 W'
inductive Sn(S U:RW→V→RW→Prop)(W:RW):V→RW→Prop
 |go {k v W₁ f W'}:S W (flow k v) W₁→Nx k→U W₁ f W'→Sn S U W f W'
 |out {k v W'}:S W (flow k v) W'→Ox k→Sn S U W (flow k v) W'
noncomputable abbrev tif(e a u:V):V:=.tup [.int 4,e,a,u]
noncomputable abbrev tstop(e:V):V:=tif e (.tup [.int 18]) (.tup [.int 10])
section
variable {X:Wd}{P:RP}{n:Nat}{Q:Nat→Prop}{D D' m w w' l:Nat}{lo hi lo' hi' k c c' z j x y:Int}{b d d':Bool}{pre ss ts:List V}{W W₁ W₂ T T₁:RW}{e e' s s' t f u u' a a':V}{g:V→Prop}{S U:Bool→RW→V→RW→Prop}{R V':RW→V→RW→Prop}
theorem tf_of(hn:isNv e=false)(h:Ev X D P e W x W')(hk:(x % 2==1)=true∧f=N0∨(x % 2==1)=false∧f=flow 1 .none):Tf X D P e W f W':=by
 rcases hk with⟨q,rfl⟩|⟨q,rfl⟩
 ·exact .yes (q▸.yes hn h)
 ·exact .no (q▸.yes hn h)
theorem Tf.zs(x:Int)(s:W.stop=true)(v:Vd n W):Zs n Fv (fun W f W'=>((x % 2==1)=true∧f=N0∨(x % 2==1)=false∧f=flow 1 .none)∧W'=W) W:=by
 rcases odd x with q|q
 ·exact .mk ⟨.inl ⟨q,rfl⟩,rfl⟩ .next (.refl s v)
 ·exact .mk ⟨.inr ⟨q,rfl⟩,rfl⟩ .brk (.refl s v)
theorem tf_dir(hn:isNv e=false)(h:XE X P n Q D w lo hi d [] e e):SX false X P n Q D Fv w lo hi d [] (fun b=>Tf X D (rd b P) e) (Tf X D (rd true P) e):=
 h.free.bind0 (g':=Fv) (K:=fun _ x W f W'=>((x % 2==1)=true∧f=N0∨(x % 2==1)=false∧f=flow 1 .none)∧W'=W) (L:=fun x W f W'=>((x % 2==1)=true∧f=N0∨(x % 2==1)=false∧f=flow 1 .none)∧W'=W)
  (fun h k=>k.2▸tf_of hn h k.1) (fun h k=>k.2▸tf_of hn h k.1)
  (fun _ x _ _ _ s=>by
   rcases odd x with q|q
   ·exact .mk ⟨.inl ⟨q,rfl⟩,rfl⟩ ⟨.inl ⟨q,rfl⟩,rfl⟩ (.go .next s .refl)
   ·exact .mk ⟨.inr ⟨q,rfl⟩,rfl⟩ ⟨.inr ⟨q,rfl⟩,rfl⟩ (.go .brk s .refl)) (fun _ x _ _ s v=>Tf.zs x s v) fun x _ _ s v=>Tf.zs x s v
theorem tf_none:SX false X P n Q D Fv 0 lo hi false [] (fun b=>Tf X D (rd b P) .none) (Tf X D (rd true P) .none):=
 .dir (fun _ _ _ s=>.mk (.yes .no) (.yes .no) (.go .next s .refl)) fun _ _ s v=>.mk (.yes .no) .next (.refl s v)
theorem tf_pre(hn:isNv e=false)(h:XE X P n Q (D+3) w lo hi d pre e e'):SX false X P n Q (D+4) Fv w lo hi d pre (fun b=>Tf X (D+4) (rd b P) e) (Xs X (D+4) (rd true P) (tstop e')):=
 ((h.free.bindS (w':=0) (d':=false) (g':=Fv) (S₂:=fun b=>Tf X (D+4) (rd b P) e) (R₂:=Xs X (D+4) (rd true P) (tstop e')) (K:=fun _ x W f W'=>((x % 2==1)=true∧f=N0∨(x % 2==1)=false∧f=flow 1 .none)∧W'=W) (L:=IfR X (D+3) (rd true P) (.tup [.int 18]) (.tup [.int 10]))
  (fun _ h k=>k.2▸tf_of hn (h.le (Qn _)) k.1) (fun s h k=>x_ifR (.same rfl) s h k)
  (fun _ x _ _ _ s=>by
   rcases odd x with q|q
   ·exact .mk ⟨.inl ⟨q,rfl⟩,rfl⟩ (.yes q (x_empty (.same rfl) s.st)) (.go .next s .refl)
   ·exact .mk ⟨.inr ⟨q,rfl⟩,rfl⟩ (.no q (.yes rfl (x_brk (.same rfl) s.st))) (.go .brk s .refl)) (fun x _ _ s v=>Tf.zs x s v)
  (fun x _ _ s v=>by
   rcases odd x with q|q
   ·exact .mk (.yes q (x_stop (.same rfl) s)) .stop (.refl s v)
   ·exact .mk (.no q (.yes rfl (x_stop (.same rfl) s))) .stop (.refl s v))
  fun b W s v=>(h.stop b W s v).rec fun a _ z=>by
   rcases odd (by assumption)with q|q
   ·exact .mk (tf_of hn (a.le (Qn _)) (.inl ⟨q,rfl⟩)) .next z
   ·exact .mk (tf_of hn (a.le (Qn _)) (.inr ⟨q,rfl⟩)) .brk z).wide (Qd _) (Qa _) (Qa _) (zz_0 d) (di_0 d)).map (Qn _) (fun h=>h) fun h=>h
end
noncomputable abbrev tTrue:V:=.tup [.int 1,.int 1,.int 1]
section
variable {α:Type}{j':Bool}{X:Wd}{P:RP}{n:Nat}{Q:Nat→Prop}{D D' m w w' l:Nat}{lo hi lo' hi' k c c' z j x y:Int}{b d d':Bool}{pre ss ts:List V}{W W₁ W₂ T T₁:RW}{e e' s s' t f u u' a a':V}{g:α→Prop}{S S':Bool→RW→α→RW→Prop}{R R':RW→α→RW→Prop}
theorem Gv.g2{δ:Int}{x y:α}(h:Gv j' n Q g m lo hi δ W T x W₁ y T₁):g y:=by
 induction h with
 |go h=>exact h
 |ff _ h=>exact h
theorem SX.fin(h:SX false X P n Q D g w lo hi d [] S R)(l:D≤D')(js:∀{W f W'},W.stop=false→S false W f W'→S' false W f W')(jr:∀{W f W'},W.stop=false→g f→R W f W'→R' W f W')(st:∀b W,W.stop=true→Vd n W→Zs n g (S' b) W):SX false X P n Q D' g w lo hi d [] S' R':=
 .dir (fun _ _ _ s=>(h.undir s).rec fun a b o=>.mk (js s.ss a) (jr s.st o.g2 b) o) st
theorem WhenR.inv(h:WhenR X D P W e b W')(hn:isNv e=false):∃y,Ev X D P e W y W'∧(y % 2==1)=b:=by
 induction h with
 |no=>exact nomatch hn
 |yes _ h=>exact⟨_,h,rfl⟩
theorem n0k(h:((0:Int) != 0)=true):False:=nomatch h
theorem lw_it(hn:isNv e=false)(h:It (Sq (Tf X D P e) (Xs X D P a)) W f W₁):Lw X D P e a W f W₁:=by
 induction h with
 |go h hk _ ih=>
  generalize eu:flow _ _=u at h
  induction h with
  |go h1 h2=>
   subst eu
   cases h1 with
   |yes h1=>obtain⟨y,h1,hy⟩:=h1.inv hn;exact .go h1 hy h2 hk ih
  |out h1 h2=>
   injection eu with eu;injection eu with e1 e2;injection e1 with e1;subst e1
   cases h1 with
   |no h1=>exact absurd hk (by decide)
   |yes h1=>exact(n0k h2).elim
 |out h hk he=>
  generalize eu:flow _ _=u at h
  induction h with
  |go h1 h2=>
   subst eu
   cases h1 with
   |yes h1=>obtain⟨y,h1,hy⟩:=h1.inv hn;exact .out h1 hy h2 hk he
  |out h1 h2=>
   injection eu with eu;injection eu with e1 e2;injection e1 with e1;subst e1
   cases h1 with
   |no h1=>
    obtain⟨y,h1,hy⟩:=h1.inv hn
    injection e2 with e2;subst e2
    cases he with
    |brk=>exact .stop h1 hy
    |no h=>exact nomatch h
   |yes h1=>exact(n0k h2).elim
theorem lw_blk(h:It (Xs X (D+1) P a) W f W₁):Lw X (D+1) P tTrue a W f W₁:=by
 induction h with
 |go h hk _ ih=>exact .go ev_const rfl h hk ih
 |out h hk he=>exact .out ev_const rfl h hk he
theorem turn_s(hn:isNv e=false)(h:Zs n rg (Ev X D P e) W)(ha:∀W,W.stop=true→Xs X D P a W N5 W):Zs n Fs (Sq (Tf X D P e) (Xs X D P a)) W:=by
 obtain⟨h,_,z⟩:=h
 rcases odd (by assumption)with q|q
 ·exact .mk (.go (tf_of hn h (.inl ⟨q,rfl⟩)) (ha _ z.st)) .stop z
 ·exact .mk (.out (tf_of hn h (.inr ⟨q,rfl⟩)) rfl) .brk z
theorem xs_while(hn:isNv e=false)(h:XE X P n Q (D+2) w lo hi true [] e e)(ha:XS X P n Q (D+2) w' lo hi c a a')(hw:w+w'≤999000)(hb:Bare t (.tup [.int 5,e,a'])):XS X P n Q (D+3) (w+w') lo hi 5 (.tup [.int 5,e,a]) t:=
 ⟨(((tf_dir hn h).seq ha.r (fun _ h=>h) (fun W s v=>ha.bt.zs s v) (fun h=>h)).loop hw (fun b W s v=>turn_s hn (h.stop b W s v) fun _ s=>ha.bs.stop s) fun W s v=>turn_s hn (h.stop true W s v) fun _ s=>ha.bt.stop s).fin (Qn _)
  (fun s h=>x_while (.same rfl) s (lw_it hn h)) (fun s _ h=>x_while hb s (lw_it hn h)) fun _ _ s v=>Bc.zs ⟨.same rfl⟩ s v,⟨.same rfl⟩,⟨hb⟩,.inl rfl⟩
theorem ok1_app2{p l:List V}{x y:V}:Ok1 (p++x::y::l):=by
 induction p with
 |nil=>exact ok1_2
 |cons x p=>
  induction p with
  |nil=>exact ok1_2
  |cons y p=>exact ok1_2
theorem sx_turn(hn:isNv e=false)(h:XE X P n Q (D+3) w lo hi d pre e e')(ha:XS X P n Q (D+4) w' lo hi c a a'):SX false X P n Q (D+4) Fv (w+w') lo hi d pre (fun b=>Sq (Tf X (D+4) (rd b P) e) (Xs X (D+4) (rd b P) a)) (Row X (D+4) (rd true P) [tstop e',a']):=
 (tf_pre hn h).seq (R₂:=Row X (D+4) (rd true P) [tstop e',a']) (U:=fun b=>Xs X (D+4) (rd b P) a) (ha.r.row1 fun _ h=>h.zc) (fun _ h=>h) (fun W s v=>.mk (.out (ha.bt.stop s) rfl) .stop (.refl s v)) sq_row
theorem xs_whileA(E:Env P n)(hn:isNv e=false)(h:XE X P n Q (D+3) w lo hi true pre e e')(ha:XS X P n Q (D+4) w' lo hi c a a')(hw:w+w'≤999000)(hu:Bare u (tblk (pre++[tstop e',a']) 0))(hb:Bare t (.tup [.int 5,tTrue,u])):XS X P n Q (D+9) (w+w') lo hi 5 (.tup [.int 5,e,a]) t:=
 have h1:=sx_turn hn h ha
 have h2:=SX.closeR (D':=D+8) (S':=fun b=>Sq (Tf X (D+4) (rd b P) e) (Xs X (D+4) (rd b P) a)) E (by lia) (beg_0 E (by lia)) (fun _ h=>h) h1 .stop (fun T s=>.out (x_stop (.same rfl) s) rfl) ok1_app2 hu (fun _ e h=>e▸h) h1.stop
 ⟨(h2.loop hw (fun b W s v=>turn_s hn ((h.stop b W s v).rec fun a g z=>.mk (a.le (Qn _)) g z) fun _ s=>ha.bs.stop s) fun W s v=>.mk (x_stop hu s) .stop (.refl s v)).fin (D':=D+9) (by lia) (fun s h=>(x_while (.same rfl) s (lw_it hn h)).le (by lia)) (fun s _ h=>x_while hb s (lw_blk h)) fun _ _ s v=>Bc.zs ⟨.same rfl⟩ s v,⟨.same rfl⟩,⟨hb⟩,.inl rfl⟩
end
inductive Bq(B:RW→RW→Prop)(S:RW→V→RW→Prop)(W:RW)(f:V)(W':RW):Prop
 |mk {W₀}:B W W₀→S W₀ f W'→Bq B S W f W'
inductive Ln(S U:RW→V→RW→Prop)(W:RW)(g:V)(W':RW):Prop
 |go {k v W₁}:S W (flow k v) W₁→Nx k→U W₁ g W'→Ln S U W g W'
 |out {k v}:S W (flow k v) W'→Ox k→EndR (flow k v) g→Ln S U W g W'
noncomputable def Kj(j:Int)(R:RW→V→RW→Prop)(T:RW)(f:V)(T':RW):Prop:=R T f T'∧(T'.stop=true∨T.stop=false∧lookA T'.held j=lookA T.held j)
section
variable {X:Wd}{P:RP}{n:Nat}{Q Q':Nat→Prop}{D D' m w w' l:Nat}{lo hi lo' hi' k c c' z j x y:Int}{b d d':Bool}{pre ss ts:List V}{W W₁ W₂ T T₁:RW}{e e' s s' t f u u' a a':V}{g:V→Prop}{S U:Bool→RW→V→RW→Prop}{R R' V':RW→V→RW→Prop}{ls:List Nat}
theorem SX.beg(E:Env P n)(l:2≤D)(hq:∀a,Q' a→Q a∨P.of[a]?=some (.int k)∧k≠0)(hq2:∀a,Q a→Q' a)(h:SX false X P n Q' D g w lo hi d [] S R):SX false X P n Q D g w lo hi d [] (fun b=>Bq (Bg X D (rd b P) k) (S b)) (Bq (Bg X D (rd true P) k) R):=
 .dir (fun m W T s=>by
  obtain⟨W',T',b1,b2,s1,mv⟩:=beg_k (X:=X) E l hq (m+w) W T lo hi s
  obtain⟨a,b,o⟩:=h.undir s1
  induction o with
  |go gx s2 mv2=>exact .mk ⟨b1,a⟩ ⟨b2,b⟩ (.go gx (s2.mono hq2 (Qd _)) ((mv.trans mv2).wide (Qa _) (Qa _) (Int.le_of_eq (Int.zero_add _).symm)))
  |ff g1 g2 k q=>exact .mk ⟨b1,a⟩ ⟨b2,b⟩ (.ff g1 g2 (k.cast mv.cau) q)) fun b W s v=>by
  obtain⟨W',h1,z⟩:=beginS (X:=X) (D:=0) E (k:=k) (b:=b) s v
  obtain⟨a,gx,z2⟩:=h.stop b W' z.st z.vd
  exact .mk ⟨h1.le l,a⟩ gx (z.trans z2)
theorem SX.ln(h:SX false X P n Q D Fv w lo hi d pre S R)(h2:SX false X P n Q D Fv w' lo hi false [] U V')(ht:∀W,W.stop=true→Vd n W→Zs n Fv V' W):SX false X P n Q D Fv (w+w') lo hi d pre (fun b=>Ln (S b) (U b)) (Ln R V'):=
 (h.bind (d':=false) (g':=Fv) (S₂:=fun b=>Ln (S b) (U b)) (R₂:=Ln R V') (K:=fun b f W r W'=>(∃k v,f=flow k v∧Nx k)∧U b W r W'∨(∃k v,f=flow k v∧Ox k∧EndR (flow k v) r)∧W'=W) (L:=fun f W r W'=>(∃k v,f=flow k v∧Nx k)∧V' W r W'∨(∃k v,f=flow k v∧Ox k∧EndR (flow k v) r)∧W'=W)
  (fun h1 h2=>by
   rcases h2 with⟨⟨k,v,rfl,hk⟩,h2⟩|⟨⟨k,v,rfl,hk,h2⟩,rfl⟩
   ·exact .go h1 hk h2
   ·exact .out h1 hk h2)
  (fun h1 h2=>by
   rcases h2 with⟨⟨k,v,rfl,hk⟩,h2⟩|⟨⟨k,v,rfl,hk,h2⟩,rfl⟩
   ·exact .go h1 hk h2
   ·exact .out h1 hk h2)
  (fun m x W T hx s=>by
   cases hx.lc with
   |go hk=>
    obtain⟨a,b,o⟩:=h2.undir s
    exact .mk (.inl ⟨⟨_,_,rfl,hk⟩,a⟩) (.inl ⟨⟨_,_,rfl,hk⟩,b⟩) o
   |out hk he hf=>exact .mk (.inr ⟨⟨_,_,rfl,hk,he⟩,rfl⟩) (.inr ⟨⟨_,_,rfl,hk,he⟩,rfl⟩) (.go hf (s.less (Qw _ _)) .refl))
  (fun b x W hx s v=>by
   cases hx.lc with
   |go hk=>obtain⟨a,g,z⟩:=h2.stop b W s v;exact .mk (.inl ⟨⟨_,_,rfl,hk⟩,a⟩) g z
   |out hk he hf=>exact .mk (.inr ⟨⟨_,_,rfl,hk,he⟩,rfl⟩) hf (.refl s v))
  fun x W hx s v=>by
   cases hx.lc with
   |go hk=>obtain⟨a,g,z⟩:=ht W s v;exact .mk (.inl ⟨⟨_,_,rfl,hk⟩,a⟩) g z
   |out hk he hf=>exact .mk (.inr ⟨⟨_,_,rfl,hk,he⟩,rfl⟩) hf (.refl s v)).wide (Qd _) (Qa _) (Qa _) (zz_0 d) (di_0 d)
theorem SX.keep(h:SX false X P n Q D g w lo hi d [] S R)(hj:j≤lo∨hi < j):SX false X P n Q D g w lo hi d [] S (Kj j R):=
 .dir (fun m W T s=>by
  obtain⟨a,b,o⟩:=h.undir s
  induction o with
  |go gx s2 mv2=>exact .mk a ⟨b,.inr ⟨s.st,mv2.hld j hj⟩⟩ (.go gx s2 mv2)
  |ff g1 g2 k q=>exact .mk a ⟨b,.inl k.st⟩ (.ff g1 g2 k q)) h.stop
theorem Zs.keep(h:Zs n g R W):Zs n g (Kj j R) W:=h.rec fun a b z=>.mk ⟨a,.inl z.st⟩ b z
theorem sq_kj(h:Sq (Kj j R) (Kj j R') W f W₁):Kj j (Sq R R') W f W₁:=by
 induction h with
 |go a b=>exact⟨.go a.1 b.1,b.2.imp (fun h=>h) fun h=>a.2.elim (fun q=>absurd (q.symm.trans h.1) (by decide)) fun q=>⟨q.1,h.2.trans q.2⟩⟩
 |out a b=>exact⟨.out a.1 b,a.2⟩
theorem SX.hold(h:SX false X P n Q D g w lo hi d [] S R)(h1:lo < j)(h2:j≤hi):SX false X P n Q D g (w+1) lo hi d [] S fun T f T'=>T.held.length < LIM∧R (hd j x T) f T':=
 .dir (fun m W T s=>by
  obtain⟨a,b,o⟩:=h.undir (T:=Mine.hd j x T) (Simu.hd (s.less (Qd _)))
  induction o with
  |go gx s2 mv2=>exact .mk a ⟨s.lims.2.2.1,b⟩ (.go gx s2 ⟨mv2.cau,mv2.hrd,(keep_hd h1 h2).trans mv2.hld⟩)
  |ff g1 g2 k q=>exact .mk a ⟨s.lims.2.2.1,b⟩ (.ff g1 g2 k q)) h.stop
theorem Simu.srn{i:Nat}(h:Simu n Q m W T)(hi:¬Q i)(hv:rg x):Simu n Q m (Mine.rn i x W) T:=
 ⟨h.vs.rn hv,h.vt,h.ss,h.st,h.log,h.hrd,h.hol,h.cau,h.h14,h.fit,h.mp.elim fun f p=>⟨f,fun j c e=>(Qp (Qc.mp (p.val j c e)).1).trans (p.val j c e),p.inj,fun l q=>(p.lid l q).elim fun i' ⟨h1,h2,h3⟩=>⟨i',h1,h2,(List.getElem?_set_ne fun e=>hi (by subst e;exact q.2)).trans h3⟩,p.see,p.cel⟩,h.cne⟩
theorem Simu.srns:∀{W:RW},Simu n Q m W T→(∀l∈ls,¬Q l)→Simu n Q m (rnAll ls W) T:=by
 induction ls with
 |nil=>exact fun h _=>h
 |cons l ls ih=>exact fun h hl=>ih (h.srn (hl l Qe) rg0) fun a ha=>hl a (Qg _ ha)
theorem SX.srcB(E:Env P n)(l:2≤D)(hq:∀a,P.of[a]?=some (.int k)→¬Q a)(h:SX false X P n Q D g w lo hi d [] S R):SX false X P n Q D g w lo hi d [] (fun b=>Bq (Bg X D (rd b P) k) (S b)) R:=
 .dir (fun m W T s=>by
  obtain⟨ls,h1,h2⟩:=E.win k
  have h3:=E.ns h2
  have e:∀{W:RW} {ls:List Nat},(rnAll ls W).caught=W.caught∧(rnAll ls W).heard=W.heard:=fun{W ls}=>by
   induction ls generalizing W with
   |nil=>exact⟨rfl,rfl⟩
   |cons l ls ih=>exact ih (W:=rn l 0 W)
  have b1:Bg X D (rd false P) k W (rnAll ls W):=(begin_ok (P:=rd false P) (D:=0) h1 fun l hl=>s.vs.len.symm▸(h3 l hl).1).le l
  obtain⟨a,b,o⟩:=h.undir (s.srns (ls:=ls) fun l hl=>hq l ((h2 l).mp hl).1)
  induction o with
  |go gx s2 mv2=>exact .mk ⟨b1,a⟩ b (.go gx s2 ⟨mv2.cau.trans e.1,by have:=mv2.hrd;rw[e.2]at this;exact this,mv2.hld⟩)
  |ff g1 g2 k q=>exact .mk ⟨b1,a⟩ b (.ff g1 g2 (k.cast e.1) q)) fun b W s v=>by
  obtain⟨W',h1,z⟩:=beginS (X:=X) (D:=0) E (k:=k) (b:=b) s v
  obtain⟨a,gx,z2⟩:=h.stop b W' z.st z.vd
  exact .mk ⟨h1.le l,a⟩ gx (z.trans z2)
end
inductive Gd(R:RW→V→RW→Prop)(T:RW):V→RW→Prop
 |run {f T'}:T.stop=false→R T f T'→Gd R T f T'
 |stop:T.stop=true→Gd R T N5 T
noncomputable abbrev tc(k c:Int):V:=.tup [.int 1,.int k,.int c]
noncomputable abbrev tfirst(j:Int):V:=.tup [.int 14,.int 1,.str 25,tslot 7 j,tc 7 1,.int 0]
section
variable {α:Type}{X:Wd}{P:RP}{n:Nat}{Q Q':Nat→Prop}{D D' m w w' l:Nat}{lo hi lo' hi' k c c' z j x y:Int}{b d d':Bool}{pre ss ts:List V}{W W₁ W₂ T T₁:RW}{e e' s s' t f u u' a a' v q p g lp:V}{S S':Bool→RW→V→RW→Prop}{R R':RW→V→RW→Prop}
theorem par(h:(y % 2==1)=b):(y % 2==0)=!b:=by
 rcases Int.emod_two_eq y with q|q<;>rw[q]at h⊢<;>subst h<;>rfl
theorem ld_it(hn:isNv e=false)(h:It (Sq (Bq (Bg X D P k) (Tf X D P e)) (Xs X D P a)) W₁ g W₂):∀{W k₀ v},Xs X D P a W (flow k₀ v) W₁→Nx k₀→Ld X D P a e k W g W₂:=by
 induction h with
 |go h hk _ ih=>
  intro W k₀ v h0 hk0
  generalize eu:flow _ _=u at h
  induction h with
  |go h1 h2=>
   subst eu
   obtain⟨b,h1⟩:=h1
   cases h1 with
   |yes h1=>obtain⟨y,h1,hy⟩:=h1.inv hn;exact .go h0 hk0 b h1 (par hy) (ih h2 hk)
  |out h1 h2=>
   injection eu with eu;injection eu with e1 e2;injection e1 with e1;subst e1
   obtain⟨b,h1⟩:=h1
   cases h1 with
   |no h1=>exact absurd hk (by decide)
   |yes h1=>exact(n0k h2).elim
 |out h hk he=>
  intro W k₀ v h0 hk0
  generalize eu:flow _ _=u at h
  induction h with
  |go h1 h2=>
   subst eu
   obtain⟨b,h1⟩:=h1
   cases h1 with
   |yes h1=>obtain⟨y,h1,hy⟩:=h1.inv hn;exact .go h0 hk0 b h1 (par hy) (.out h2 hk he)
  |out h1 h2=>
   injection eu with eu;injection eu with e1 e2;injection e1 with e1;subst e1
   obtain⟨b,h1⟩:=h1
   cases h1 with
   |no h1=>
    obtain⟨y,h1,hy⟩:=h1.inv hn
    injection e2 with e2;subst e2
    cases he with
    |brk=>exact .stop h0 hk0 b h1 (par hy)
    |no h=>exact nomatch h
   |yes h1=>exact(n0k h2).elim
theorem ld_ln(hn:isNv e=false)(h:Ln (Xs X D P a) (It (Sq (Bq (Bg X D P k) (Tf X D P e)) (Xs X D P a))) W g W₁):Ld X D P a e k W g W₁:=by
 induction h with
 |go h1 hk h2=>exact ld_it hn h2 h1 hk
 |out h1 hk he=>exact .out h1 hk he
theorem SX.gd(h:SX false X P n Q D Fv w lo hi d [] S R):SX false X P n Q D Fv w lo hi d [] S (Gd R):=h.fin (Qd _) (fun _ h=>h) (fun s _ h=>.run s h) h.stop
theorem ev_first(h:lookA W.held j=some (.int c)):Ev X (D+2) P (tfirst j) W (@Bool.rec (fun _=>Int) 0 1 (c==1)) W:=ev_bin (ev_slot h) ev_const
theorem lw_gd(hu:Bare u (tblk [q,a'] 0))(hq:Bare q (tif (tfirst j) (thold j (tc 7 0)) p))(hp:isNv p=false)(E:Env P n)(h:It (Gd (Kj j (Sq (Xs X (D+2) (rd true P) p) (Row X (D+3) (rd true P) [a'])))) T g T₁):(T.stop=true∨lookA T.held j=some (.int 0))→Lw X (D+6) (rd true P) tTrue u T g T₁:=by
 have key:∀{T f T₁},Gd (Kj j (Sq (Xs X (D+2) (rd true P) p) (Row X (D+3) (rd true P) [a']))) T f T₁→(T.stop=true∨lookA T.held j=some (.int 0))→Xs X (D+6) (rd true P) u T f T₁∧(T₁.stop=true∨lookA T₁.held j=some (.int 0)):=by
  intro T f T₁ h h0
  induction h with
  |stop s=>exact⟨x_stop hu s,.inl s⟩
  |run s h=>
   have h1:=h0.resolve_left fun q=>absurd (q.symm.trans s) (by decide)
   have hx:∀{f T'},Xs X (D+2) (rd true P) p T f T'→Xs X (D+3) (rd true P) q T f T':=fun r=>x_ifR hq s (ev_first h1) (.no rfl (.yes hp r))
   refine⟨x_blk (D:=D+2) hu s ((begin_0 (D:=0) E).le (by lia)) ok1_2 (sq_row ?_),h.2.imp (fun h=>h) fun h=>h.2.trans h1⟩
   cases h.1 with
   |go a b=>exact .go (hx a) b
   |out a b=>exact .out (hx a) b
 induction h with
 |go h hk _ ih=>exact fun h0=>(key h h0).elim fun a b=>.go ev_const rfl a hk (ih b)
 |out h hk he=>exact fun h0=>.out ev_const rfl (key h h0).1 hk he
theorem lw_first(hu:Bare u (tblk [q,a'] 0))(hq:Bare q (tif (tfirst j) (thold j (tc 7 0)) p))(hp:isNv p=false)(E:Env P n)(s:T.stop=false)(hl:T.held.length < LIM)(h1:lookA T.held j=some (.int 1))(h:Ln (Kj j (Row X (D+3) (rd true P) [a'])) (It (Gd (Kj j (Sq (Xs X (D+2) (rd true P) p) (Row X (D+3) (rd true P) [a']))))) (hd j 0 T) g T₁):Lw X (D+6) (rd true P) tTrue u T g T₁:=by
 have h2:Xs X (D+3) (rd true P) q T N0 (hd j 0 T):=x_ifR hq s (ev_first h1) (.yes rfl (x_hold (.same rfl) s ev_const hl))
 have hx:∀{f T'},Row X (D+3) (rd true P) [a'] (hd j 0 T) f T'→Xs X (D+6) (rd true P) u T f T':=fun r=>x_blk (D:=D+2) hu s ((begin_0 (D:=0) E).le (by lia)) ok1_2 (.go h2 r)
 induction h with
 |go a hk b=>exact .go ev_const rfl (hx a.1) hk (lw_gd hu hq hp E b (a.2.imp (fun h=>h) fun h=>h.2.trans sto_self))
 |out a hk he=>exact .out ev_const rfl (hx a.1) hk he
end
noncomputable abbrev DoS(X:Wd)(D:Nat)(P:RP)(e a:V)(k:Int):RW→V→RW→Prop:=Ln (Xs X D P a) (It (Sq (Bq (Bg X D P k) (Tf X D P e)) (Xs X D P a)))
noncomputable abbrev tdo(a e:V):V:=.tup [.int 6,a,e]
section
variable {α:Type}{X:Wd}{P:RP}{n:Nat}{Q Q':Nat→Prop}{D D' m w w' l:Nat}{lo hi lo' hi' k c c' z j x y:Int}{b d d':Bool}{pre ss ts:List V}{W W₁ W₂ T T₁:RW}{e e' s s' t f u u' a a' v q p g lp:V}{S S':Bool→RW→V→RW→Prop}{R R':RW→V→RW→Prop}
theorem Tf.le(h:Tf X D P e W f W₁)(l:D≤D'):Tf X D' P e W f W₁:=by
 have key:∀{b},WhenR X D P W e b W₁→WhenR X D' P W e b W₁:=fun h=>by
  cases h with
  |no=>exact .no
  |yes n h=>exact .yes n (h.le l)
 induction h with
 |no h=>exact .no (key h)
 |yes h=>exact .yes (key h)
theorem turnB_s(E:Env P n)(l:2≤D)(hn:isNv e=false)(h:∀W,W.stop=true→Vd n W→Zs n rg (Ev X D (rd b P) e) W)(ha:∀W,W.stop=true→Xs X D (rd b P) a W N5 W)(s:W.stop=true)(v:Vd n W):Zs n Fs (Sq (Bq (Bg X D (rd b P) k) (Tf X D (rd b P) e)) (Xs X D (rd b P) a)) W:=by
 obtain⟨W',h1,z1⟩:=beginS (X:=X) (D:=0) E (k:=k) (b:=b) s v
 have h1:=h1.le l
 obtain⟨h,_,z⟩:=h W' z1.st z1.vd
 rcases odd (by assumption)with q|q
 ·exact .mk (.go ⟨h1,tf_of hn h (.inl ⟨q,rfl⟩)⟩ (ha _ z.st)) .stop (z1.trans z)
 ·exact .mk (.out ⟨h1,tf_of hn h (.inr ⟨q,rfl⟩)⟩ rfl) .brk (z1.trans z)
theorem sx_doN(E:Env P n)(hq:∀a,Q' a→Q a∨P.of[a]?=some (.int k)∧k≠0)(hq2:∀a,Q a→Q' a)(hn:isNv e=false)(h:XE X P n Q' (D+2) w lo hi true [] e e)(ha:XS X P n Q (D+2) w' lo hi c a a')(hw:w+w'≤999000):SX false X P n Q (D+2) Fv (w'+(w+w')) lo hi false [] (fun b=>DoS X (D+2) (rd b P) e a k) (DoS X (D+2) (rd true P) e a' k):=
 have hs:=fun b W (s:W.stop=true) (v:Vd n W)=>turnB_s (k:=k) E (Nat.le_add_left 2 D) hn (fun W s v=>h.stop b W s v) (fun _ s=>ha.bs.stop s) s v
 have ht:=fun W (s:W.stop=true) (v:Vd n W)=>turnB_s (k:=k) E (Nat.le_add_left 2 D) hn (fun W s v=>h.stop true W s v) (fun _ s=>ha.bt.stop s) s v
 ha.r.ln (((SX.beg E (by lia) hq hq2 (tf_dir hn h)).seq ha.r (fun _ h=>h) (fun W s v=>ha.bt.zs s v) (fun h=>h)).loop hw hs ht) fun W s v=>it_s (ht W s v)
theorem xs_doN(E:Env P n)(hn:isNv e=false)(h:XE X P n Q (D+2) w lo hi true [] e e)(ha:XS X P n Q (D+2) w' lo hi c a a')(hw:w+w'≤999000)(hb:Bare t (tdo a' e)):XS X P n Q (D+6) (w'+(w+w')) lo hi 6 (tdo a e) t:=
 ⟨(sx_doN (k:=0) E (fun _ h=>.inl h) (fun _ h=>h) hn h ha hw).fin (D':=D+6) (by lia) (fun s h=>(x_do (.same rfl) s (o_do (do_ok (D:=D+1) (ld_ln hn h)))).le (by lia)) (fun s _ h=>(x_do hb s (o_do (do_ok (D:=D+1) (ld_ln hn h)))).le (by lia)) fun _ _ s v=>Bc.zs ⟨.same rfl⟩ s v,⟨.same rfl⟩,⟨hb⟩,.inr rfl⟩
theorem xs_doNB(E:Env P n)(hq:∀a,Q' a→Q a∨P.of[a]?=some (.int k)∧k≠0)(hq2:∀a,Q a→Q' a)(hn:isNv e=false)(h:XE X P n Q' (D+2) w lo hi true [] e e)(ha:XS X P n Q (D+2) w' lo hi c a a')(hw:w+w'≤999000)(hx:Bare q (tdo a' e))(hb:Bare t (tblk [q] k)):XS X P n Q (D+6) (w'+(w+w')) lo hi 3 (tblk [tdo a e] k) t:=
 ⟨(SX.beg (k:=k) (Q':=Q) E (by lia) (fun _ h=>.inl h) (fun _ h=>h) (sx_doN (k:=k) E hq hq2 hn h ha hw)).fin (D':=D+6) (by lia) (fun s h=>h.rec fun b h=>x_block (.same rfl) s (blk_do (b.le (by lia)) (.same rfl) ((do_ok (D:=D+1) (ld_ln hn h)).le (by lia)))) (fun s _ h=>h.rec fun b h=>x_block hb s (blk_do (b.le (by lia)) hx ((do_ok (D:=D+1) (ld_ln hn h)).le (by lia)))) fun _ _ s v=>Bc.zs ⟨.same rfl⟩ s v,⟨.same rfl⟩,⟨hb⟩,.inl rfl⟩
end
inductive DoP(j k:Int)(pre:List V)(e' a' t:V):Prop
 |mk {p q u lp}:Bare p (tblk (pre++[tstop e']) k)→Bare q (tif (tfirst j) (thold j (tc 7 0)) p)→Bare u (tblk [q,a'] 0)→Bare lp (.tup [.int 5,tTrue,u])→Bare t (tblk [thold j (tc 7 1),lp] 0)→DoP j k pre e' a' t
section
variable {α:Type}{X:Wd}{P:RP}{n:Nat}{Q Q':Nat→Prop}{D D' m w w' l:Nat}{lo hi lo' hi' k c c' z j x y:Int}{b d d':Bool}{pre ss ts:List V}{W W₁ W₂ T T₁:RW}{e e' s s' t f u u' a a' v q p g lp:V}{S S':Bool→RW→V→RW→Prop}{R R':RW→V→RW→Prop}
noncomputable abbrev DoT(X:Wd)(A:Nat)(P:RP)(a' p:V)(j:Int):RW→V→RW→Prop:=Ln (Kj j (Row X (A+1) P [a'])) (It (Gd (Kj j (Sq (Xs X A P p) (Row X (A+1) P [a'])))))
theorem sx_doA(E:Env P n)(hq:∀a,Q' a→Q a∨P.of[a]?=some (.int k)∧k≠0)(hq2:∀a,Q a→Q' a)(hn:isNv e=false)(h:XE X P n Q' (D+3) w j hi true pre e e')(ha:XS X P n Q (D+8) w' lo (j - 1) c a a')(hw:w+w'≤999000)(hp:Bare p (tblk (pre++[tstop e']) k))(h1:lo < j)(h2:j≤hi):
  SX false X P n Q (D+9) Fv (w'+(w+w')+1+1) lo hi false [] (fun b=>DoS X (D+8) (rd b P) e a k) fun T g T'=>T.held.length < LIM∧(hd j 1 T).held.length < LIM∧DoT X (D+8) (rd true P) a' p j (hd j 0 (hd j 1 T)) g T':=by
 have t1:=SX.closeR (D':=D+8) (S':=fun b=>Bq (Bg X (D+8) (rd b P) k) (Tf X (D+8) (rd b P) e)) E (by lia) (beg_k E (by lia) hq) hq2 ((tf_pre hn h).row1 fun _ h=>h.zc) .stop (fun T s=>.out (x_stop (.same rfl) s) rfl) (by
  induction pre with
  |nil=>exact .one ⟨.same rfl⟩ rfl
  |cons x p=>exact ok1_app (List.cons_ne_nil _ _)) hp (fun _ b h=>⟨b.le (by lia),h.le (by lia)⟩) (fun b W s v=>by
  obtain⟨W',h1,z⟩:=beginS (X:=X) (D:=0) E (k:=k) (b:=b) s v
  obtain⟨a,g,z2⟩:=(tf_pre hn h).stop b W' z.st z.vd
  exact .mk ⟨h1.le (by lia),a.le (by lia)⟩ g (z.trans z2))
 have t1k:=((t1.keep (j:=j) (.inl (Qa _))).map (D':=D+9) (Qn _) (fun h=>h) fun h=>h).wide (lo':=lo) (hi':=hi) (d':=true) (Qd _) (by lia) (Qa _) (Qd _) (Qa _)
 have bk:=((((ha.r.row1 fun _ h=>h.zc).map (D':=D+9) (R':=Row X (D+9) (rd true P) [a']) (Qn _) (fun h=>h) fun h=>h.le (Qn _))).keep (j:=j) (.inr (by lia))).wide (lo':=lo) (hi':=hi) (d':=false) (Qd _) (Qa _) (by lia) (Qd _) (Qa _)
 have bz:∀W,W.stop=true→Vd n W→Zs n Fv (Kj j (Row X (D+9) (rd true P) [a'])) W:=fun W s v=>Zs.keep (.mk (.out ((ha.bt.stop s).le (Qn _)) rfl) .stop (.refl s v))
 have t2:=(t1k.seq bk (fun _ h=>h) bz sq_kj).gd
 have gz:∀W,W.stop=true→Vd n W→Zs n Fs (Gd (Kj j (Sq (Xs X (D+8) (rd true P) p) (Row X (D+9) (rd true P) [a'])))) W:=fun W s v=>.mk (.stop s) .stop (.refl s v)
 have t4:=t2.loop hw (fun b W s v=>turnB_s (k:=k) E (by lia) hn (fun W s v=>(h.stop b W s v).rec fun a g z=>.mk (a.le (by lia)) g z) (fun _ s=>ha.bs.stop s) s v) gz
 exact((bk.ln t4 fun W s v=>it_s (gz W s v)).hold (x:=0) h1 h2).hold (x:=1) h1 h2
theorem do_t(E:Env P n)(hp:isNv p=false)(hq:Bare q (tif (tfirst j) (thold j (tc 7 0)) p))(hu:Bare u (tblk [q,a'] 0))(hl:Bare lp (.tup [.int 5,tTrue,u]))(hb:Bare t (tblk [thold j (tc 7 1),lp] 0))(s:T.stop=false)(hf:Fv g)
  (h:T.held.length < LIM∧(hd j 1 T).held.length < LIM∧DoT X (D+2) (rd true P) a' p j (hd j 0 (hd j 1 T)) g T₁):Xs X (D+10) (rd true P) t T g T₁:=
 x_blk (D:=D+6) hb s ((begin_0 (D:=0) E).le (by lia)) ok1_2 (.go (x_hold (.same rfl) s ev_const h.1) (row1 (x_while (D:=D+5) hl s (lw_first hu hq hp E s h.2.1 sto_self h.2.2)) hf.zc))
theorem xs_doA(E:Env P n)(hn:isNv e=false)(h:XE X P n Q (D+3) w j hi true pre e e')(ha:XS X P n Q (D+8) w' lo (j - 1) c a a')(hw:w+w'≤999000)(h1:lo < j)(h2:j≤hi)(ht:DoP j 0 pre e' a' t):XS X P n Q (D+16) (w'+(w+w')+1+1) lo hi 6 (tdo a e) t:=by
 obtain⟨hp,hq,hu,hl,hb⟩:=ht
 exact⟨(sx_doA (k:=0) E (fun _ h=>.inl h) (fun _ h=>h) hn h ha hw hp h1 h2).fin (by lia) (fun s h=>(x_do (.same rfl) s (o_do (do_ok (D:=D+7) (ld_ln hn h)))).le (by lia)) (fun s hf h=>do_t E hp.nn hq hu hl hb s hf h) fun _ _ s v=>Bc.zs ⟨.same rfl⟩ s v,⟨.same rfl⟩,⟨hb⟩,.inl rfl⟩
theorem xs_doAB(E:Env P n)(hq0:∀a,P.of[a]?=some (.int k)→¬Q a)(hq:∀a,Q' a→Q a∨P.of[a]?=some (.int k)∧k≠0)(hq2:∀a,Q a→Q' a)(hn:isNv e=false)(h:XE X P n Q' (D+3) w j hi true pre e e')(ha:XS X P n Q (D+8) w' lo (j - 1) c a a')(hw:w+w'≤999000)(h1:lo < j)(h2:j≤hi)(ht:DoP j k pre e' a' t):XS X P n Q (D+16) (w'+(w+w')+1+1) lo hi 3 (tblk [tdo a e] k) t:=by
 obtain⟨hp,hq',hu,hl,hb⟩:=ht
 exact⟨(SX.srcB (k:=k) E (by lia) hq0 (sx_doA (k:=k) E hq hq2 hn h ha hw hp h1 h2)).fin (by lia) (fun s h=>h.rec fun b h=>(x_block (.same rfl) s (blk_do (b.le (by lia)) (.same rfl) ((do_ok (D:=D+7) (ld_ln hn h)).le (by lia)))).le (Qd _)) (fun s hf h=>do_t E hp.nn hq' hu hl hb s hf h) fun _ _ s v=>Bc.zs ⟨.same rfl⟩ s v,⟨.same rfl⟩,⟨hb⟩,.inl rfl⟩
end
inductive Fe:V→Prop
 |next:Fe N0
 |stop:Fe N5
noncomputable abbrev FeR(R:RW→V→RW→Prop)(T:RW)(f:V)(T':RW):Prop:=Fe f∧R T f T'
section
variable {α:Type}{X:Wd}{P:RP}{n:Nat}{Q Q':Nat→Prop}{D D' m w w' wi wb l:Nat}{lo hi lo' hi' k c c' ci z j x y:Int}{b d d':Bool}{pre ss ts:List V}{W W₁ W₂ T T₁:RW}{e e' s s' t f u u' a a' v q p lp i i' st st' ee:V}{g:V→Prop}{S S' U:Bool→RW→V→RW→Prop}{R R' V':RW→V→RW→Prop}
theorem Fe.fv(h:Fe f):Fv f:=by
 induction h with
 |next=>exact .next
 |stop=>exact .stop
theorem SX.good{g g':V→Prop}(h:SX false X P n Q D g w lo hi d [] S R)(hg:∀f,g f→g' f):SX false X P n Q D g' w lo hi d [] (fun b T f T'=>g f∧S b T f T') (fun T f T'=>g f∧R T f T'):=
 .dir (fun _ _ _ s=>by
  obtain⟨a,b,o⟩:=h.undir s
  induction o with
  |go gx s2 mv2=>exact .mk ⟨gx,a⟩ ⟨gx,b⟩ (.go (hg _ gx) s2 mv2)
  |ff g1 g2 k q=>exact .mk ⟨g1,a⟩ ⟨g2,b⟩ (.ff (hg _ g1) (hg _ g2) k q)) fun b W s v=>(h.stop b W s v).rec fun a gx z=>.mk ⟨gx,a⟩ (hg _ gx) z
theorem Fe.zc(h:Fe f):Zc f:=by
 induction h with
 |next=>exact .z
 |stop=>exact .k rfl
theorem xs_exprE(E:Env P n)(h:XE X P n Q (D+1) w lo hi d pre e e')(hb:Bare s (t1 1 e'))(hw:Wq pre s t):SX false X P n Q (D+6) Fe w lo hi d [] (fun b=>Xs X (D+6) (rd b P) (t1 1 e)) (Xs X (D+6) (rd true P) t):=
 SX.closeG (c:=1) E ((h.free.bindS (w':=0) (d':=false) (g':=Fe) (S₂:=fun b=>Xs X (D+2) (rd b P) (t1 1 e)) (R₂:=Xs X (D+2) (rd true P) s) (K:=fun _ _ W f W'=>f=N0∧W'=W) (L:=fun _ W f W'=>f=N0∧W'=W) (fun s h k=>k.1▸k.2▸x_expr (.same rfl) s h) (fun s h k=>k.1▸k.2▸x_expr hb s h)
  (fun _ _ _ _ _ s=>.mk ⟨rfl,rfl⟩ ⟨rfl,rfl⟩ (.go .next s .refl)) (fun _ _ _ s v=>.mk ⟨rfl,rfl⟩ .next (.refl s v)) (fun _ _ _ s v=>.mk ⟨rfl,rfl⟩ .next (.refl s v)) fun _ _ s v=>.mk (x_stop (.same rfl) s) .stop (.refl s v)).map (Qn _) (fun h=>h) fun h=>h) .stop (fun _ h=>h.zc) ⟨⟨hb⟩,.inl rfl⟩ hw (fun h=>h.le (by lia)) (fun _ _ s v=>.mk (x_stop (.same rfl) s) .stop (.refl s v)) |>.wide (Qd _) (Qa _) (Qa _) (zz_0 d) (di_0 d)
end
noncomputable abbrev FoX(X:Wd)(D:Nat)(P:RP)(t a:V):RW→V→RW→Prop:=Sq (Tf X D P t) (Xs X D P a)
noncomputable abbrev FoL(X:Wd)(D:Nat)(P:RP)(t:V)(ss:List V)(a:V):RW→V→RW→Prop:=Ln (FoX X (D+1) P t a) (It (Sq (FeR (Row X D P ss)) (FoX X (D+1) P t a)))
noncomputable abbrev FoS(X:Wd)(D:Nat)(P:RP)(is:List V)(t:V)(ss:List V)(a:V)(k:Int):RW→V→RW→Prop:=Bq (Bg X (D+1) P k) (Sq (Row X D P is) (FoL X D P t ss a))
noncomputable abbrev tfor(is:List V)(t:V)(ss:List V)(a:V)(k:Int):V:=.tup [.int 7,.tup is,t,.tup ss,a,.int k]
section
variable {α:Type}{X:Wd}{P:RP}{n:Nat}{Q Q':Nat→Prop}{D D' m w w' wi wb l:Nat}{lo hi lo' hi' k c c' ci z j x y:Int}{b d d':Bool}{pre ss ts is is':List V}{W W₁ W₂ T T₁:RW}{e e' s s' t t' f u u' a a' v q p lp i i' st st' ee:V}{g:V}{S S' U:Bool→RW→V→RW→Prop}{R R' V':RW→V→RW→Prop}
theorem kz(h:(k != 0)=true):(k==0)=false:=by revert h;unfold bne;cases k==0<;>simp
theorem nx5(h:Nx 5):False:=by rcases h with h|h<;>exact absurd h (by decide)
theorem nx1(h:Nx 1):False:=by rcases h with h|h<;>exact absurd h (by decide)
theorem lf_out{p o:V}{r:RW}(h:FoX X (D+1) P t a r (flow k v) W₁)(hk:Ox k)(he:EndR (flow k v) g):Lf X (D+1) P t a st N0 r g W₁:=by
 generalize eu:flow _ _=u at h
 induction h with
 |go h1 h2=>
  subst eu
  cases h1 with
  |yes h1=>exact .out h1 h2 hk he
 |out h1 h2=>
  injection eu with eu;injection eu with e1 e2;injection e1 with e1;subst e1
  cases h1 with
  |no h1=>
   injection e2 with e2;subst e2
   cases he with
   |brk=>exact .stop h1
   |no h=>exact nomatch h
  |yes h1=>exact(n0k h2).elim
theorem fo_go{r:RW}(h:FoX X D P t a r (flow k v) W₁)(hk:Nx k):∃w₁,WhenR X D P r t true w₁∧Xs X D P a w₁ (flow k v) W₁:=by
 generalize eu:flow _ _=u at h
 induction h with
 |go h1 h2=>
  subst eu
  cases h1 with
  |yes h1=>exact⟨_,h1,h2⟩
 |out h1 h2=>
  injection eu with eu;injection eu with e1 e2;injection e1 with e1;subst e1
  cases h1 with
  |no h1=>exact(nx1 hk).elim
  |yes h1=>exact(n0k h2).elim
theorem lf_it(h:It (Sq (FeR (Row X D P ss)) (FoX X (D+1) P t a)) W₁ g W₂):∀{W k₀ v},FoX X (D+1) P t a W (flow k₀ v) W₁→Nx k₀→Lf X (D+1) P t a (.tup ss) N0 W g W₂:=by
 induction h with
 |go h hk _ ih=>
  intro W k₀ v h0 hk0
  obtain⟨w₁,a1,a2⟩:=fo_go h0 hk0
  generalize eu:flow _ _=u at h
  induction h with
  |go h1 h2=>subst eu;exact .go a1 a2 hk0 (row_ok h1.2) (ih h2 hk)
  |out h1 h2=>
   injection eu with eu;injection eu with e1 e2;injection e1 with e1;subst e1
   generalize eu:flow _ _=u at h1
   obtain⟨fe,h1⟩:=h1
   induction fe with
   |next=>injection eu with eu;injection eu with e1 e2;injection e1 with e1;subst e1;exact(n0k h2).elim
   |stop=>injection eu with eu;injection eu with e1 e2;injection e1 with e1;subst e1;exact(nx5 hk).elim
 |out h hk he=>
  intro W k₀ v h0 hk0
  obtain⟨w₁,a1,a2⟩:=fo_go h0 hk0
  generalize eu:flow _ _=u at h
  induction h with
  |go h1 h2=>subst eu;exact .go a1 a2 hk0 (row_ok h1.2) (lf_out (p:=.none) (o:=.none) h2 hk he)
  |out h1 h2=>
   injection eu with eu;injection eu with e1 e2;injection e1 with e1;subst e1
   injection e2 with e2;subst e2
   cases he with
   |brk=>generalize eu:flow 1 _=u at h1;obtain⟨fe,h1⟩:=h1;induction fe<;>(injection eu with eu;injection eu with e1 e2;injection e1 with e1;exact absurd e1 (by decide))
   |no h=>exact .go a1 a2 hk0 (row_ok h1.2) (.done (kz h2))
theorem lf_ln(h:FoL X D P t ss a W g W₁):Lf X (D+1) P t a (.tup ss) N0 W g W₁:=by
 induction h with
 |go h1 hk h2=>exact lf_it h2 h1 hk
 |out h1 hk he=>exact lf_out (p:=.none) (o:=.none) h1 hk he
theorem for_fin(h:FoS X D P is t ss a k W g W₁)(hb:Bare s (tfor is t ss a k))(hs:W.stop=false):Xs X (D+4) P s W g W₁:=by
 obtain⟨b,h⟩:=h
 induction h with
 |go h1 h2=>exact x_for hb hs (o_for (for_ok b (row_ok h1) (lf_ln h2)))
 |out h1 h2=>exact x_for hb hs (o_for (for_ok b (row_ok h1) (.done (kz h2))))
theorem xs_for(E:Env P n)(hq:∀a,Q' a→Q a∨P.of[a]?=some (.int k)∧k≠0)(hq2:∀a,Q a→Q' a)(hin:XR X P n Q' (D+2) wi lo hi is is')
  (hX:SX false X P n Q' (D+3) Fv w lo hi d [] (fun b=>FoX X (D+3) (rd b P) t a) (FoX X (D+3) (rd true P) t' a')) (hXs:∀b W,W.stop=true→Vd n W→Zs n Fs (FoX X (D+3) (rd b P) t a) W) (hXt:∀W,W.stop=true→Vd n W→Zs n Fs (FoX X (D+3) (rd true P) t' a') W)
  (hs:SX false X P n Q' (D+2) Fe w' lo hi true [] (fun b=>Row X (D+2) (rd b P) ss) (Row X (D+2) (rd true P) ts)) (hss:∀b W,W.stop=true→Row X (D+2) (rd b P) ss W N5 W) (hst:∀W,W.stop=true→Row X (D+2) (rd true P) ts W N5 W) (hw:w'+w≤999000) (hb:Bare s (tfor is' t' ts a' k)):XS X P n Q (D+6) (wi+(w+(w'+w))) lo hi 7 (tfor is t ss a k) s:=
 have hsd:=hX.wide (d':=false) (Qd _) (Qa _) (Qa _) (QC _) (by induction d<;>decide)
 have t1:=((hs.good fun _ h=>h.fv).map (D':=D+3) (Qn _) (fun h=>h) fun h=>h).seq (w':=w) hX (fun _ h=>h) (fun W s v=>(hXt W s v).rec fun a g z=>.mk a g.fv z) fun h=>h
 have hs1:=fun b W (s:W.stop=true) (v:Vd n W)=>(Zs.mk (g:=Fs) (S:=Sq (FeR (Row X (D+2) (rd b P) ss)) (FoX X (D+3) (rd b P) t a)) (.out ⟨.stop,hss b W s⟩ rfl) .stop (.refl s v))
 have hs2:=fun W (s:W.stop=true) (v:Vd n W)=>(Zs.mk (g:=Fs) (S:=Sq (FeR (Row X (D+2) (rd true P) ts)) (FoX X (D+3) (rd true P) t' a')) (.out ⟨.stop,hst W s⟩ rfl) .stop (.refl s v))
 have t2:=hsd.ln (t1.loop hw hs1 hs2) fun W s v=>it_s (hs2 W s v)
 have lz:∀W,W.stop=true→Vd n W→Zs n Fv (FoL X (D+2) (rd true P) t' ts a') W:=fun W s v=>by
  obtain⟨a,g,z⟩:=hXt W s v
  induction g with
  |brk=>exact .mk (.out a rfl .brk) .next z
  |stop=>exact .mk (.out a rfl (.no rfl)) .stop z
 ⟨(SX.beg E (D:=D+3) (by lia) hq hq2 (((hin.r.map (D':=D+3) (Qn _) (fun h=>h) fun h=>h)).seq t2 (fun _ h=>h) lz fun h=>h)).fin (D':=D+6) (by lia) (fun s h=>for_fin h (.same rfl) s) (fun s _ h=>for_fin h hb s) fun _ _ s v=>Bc.zs ⟨.same rfl⟩ s v,⟨.same rfl⟩,⟨hb⟩,.inl rfl⟩
end
inductive Gn(X:Wd)(D:Nat)(P:RP)(j:Nat)(u:V)(W:RW):RW→Prop
 |no:u=.none→Gn X D P j u W W
 |zero {i}:isNv u=false→W.lids[j]?=some (cref i)→W.cs[i]?=some 0→Gn X D P j u W W
 |one {i c z W'}:isNv u=false→W.lids[j]?=some (cref i)→W.cs[i]?=some c→c≠0→Ev X D P u W z W'→Gn X D P j u W W'
inductive Us(X:Wd)(D:Nat)(P:RP)(j:Nat)(u a:V)(W:RW)(f:V)(W':RW):Prop
 |mk {W₁}:Xs X D P a W f W₁→Gn X D P j u W₁ W'→Us X D P j u a W f W'
inductive GnX(X:Wd)(P:RP)(n:Nat)(Q:Nat→Prop)(D w:Nat)(lo hi:Int):V→Prop
 |no:GnX X P n Q D w lo hi .none
 |yes {u d}:isNv u=false→XE X P n Q D w lo hi d [] u u→GnX X P n Q D w lo hi u
theorem di_nn(d:Bool):di false≤di d:=by induction d<;>decide
section
variable {α:Type}{X:Wd}{P:RP}{n:Nat}{Q Q':Nat→Prop}{D D' m w w' wi wb l i j:Nat}{lo hi lo' hi' k c c' ci z x y:Int}{b d d':Bool}{pre ss ts is is':List V}{W W₁ W₂ T T₁:RW}{e e' s s' t t' f u u' a a' v q p lp st st' ee:V}{g:V→Prop}{S S' U:Bool→RW→V→RW→Prop}{R R' V':RW→V→RW→Prop}
theorem fox_s(h:Zs n Fv (Tf X D P e) W)(ha:∀W,W.stop=true→Xs X D P a W N5 W):Zs n Fs (FoX X D P e a) W:=by
 obtain⟨h,_,z⟩:=h
 induction h with
 |no h=>exact .mk (.out (.no h) rfl) .brk z
 |yes h=>exact .mk (.go (.yes h) (ha _ z.st)) .stop z
theorem fox_seq(h:SX false X P n Q (D+2) Fv w lo hi d [] (fun b=>Tf X (D+2) (rd b P) e) (Tf X (D+2) (rd true P) e))(ha:XS X P n Q (D+2) w' lo hi c a a'):SX false X P n Q (D+2) Fv (w+w') lo hi d [] (fun b=>FoX X (D+2) (rd b P) e a) (FoX X (D+2) (rd true P) e a'):=h.seq ha.r (fun _ h=>h) (fun W s v=>ha.bt.zs s v) fun h=>h
theorem fox_await(E:Env P n)(hn:isNv e=false)(h:XE X P n Q (D+3) w lo hi d pre e e')(ha:XS X P n Q (D+4) w' lo hi c a a')(hu:Bare u (tblk (pre++[tstop e',a']) 0)):SX false X P n Q (D+8) Fv (w+w') lo hi d [] (fun b=>FoX X (D+8) (rd b P) e a) (FoX X (D+8) (rd true P) .none u):=
 have h1:=sx_turn hn h ha
 have up:∀{b W f W'},Sq (Tf X (D+4) (rd b P) e) (Xs X (D+4) (rd b P) a) W f W'→FoX X (D+8) (rd b P) e a W f W':=fun h=>by
  induction h with
  |go a b=>exact .go (a.le (by lia)) (b.le (by lia))
  |out a b=>exact .out (a.le (by lia)) b
 (SX.closeR (D':=D+8) (S':=fun b=>FoX X (D+8) (rd b P) e a) E (by lia) (beg_0 E (by lia)) (fun _ h=>h) h1 .stop (fun T s=>.out (x_stop (.same rfl) s) rfl) ok1_app2 hu (fun _ e h=>up (e▸h)) fun b W s v=>(h1.stop b W s v).rec fun a g z=>.mk (up a) g z).map (Qd _) (fun h=>h) fun h=>.go (.yes .no) h
theorem SX.rnp(hj:j < n)(h1:j≠1)(h2:j≠2)(hy:rg y)(h:SX false X P n Q D g w lo hi d [] S R):SX false X P n Q D g w lo hi d [] (fun b W f W'=>j < W.lids.length∧S b (rn j y W) f W') fun W f W'=>j < W.lids.length∧R (rn j y W) f W':=
 .dir (fun m W T s=>by
  obtain⟨a,b,o⟩:=h.undir (s.rn (R:=Q) hj hy fun _ h=>.inl h)
  have q1:=s.vs.len.symm▸hj
  have q2:=s.vt.len.symm▸hj
  induction o with
  |go gx s2 mv2=>exact .mk ⟨q1,a⟩ ⟨q2,b⟩ (.go gx s2 ⟨mv2.cau,mv2.hrd,mv2.hld⟩)
  |ff g1 g2 k q=>exact .mk ⟨q1,a⟩ ⟨q2,b⟩ (.ff g1 g2 k q)) fun b W s v=>by
  have z:=Frz.rn s v hy h1 h2
  obtain⟨a,gx,z2⟩:=h.stop b _ z.st z.vd
  exact .mk ⟨v.len.symm▸hj,a⟩ gx (z.trans z2)
theorem rn_zs{S:RW→V→RW→Prop}(hj:j < n)(h1:j≠1)(h2:j≠2)(hy:rg y)(h:∀W,W.stop=true→Vd n W→Zs n g S W)(s:W.stop=true)(v:Vd n W):Zs n g (fun W f W'=>j < W.lids.length∧S (rn j y W) f W') W:=by
 have z:=Frz.rn s v hy h1 h2
 obtain⟨a,gx,z2⟩:=h _ z.st z.vd
 exact .mk ⟨v.len.symm▸hj,a⟩ gx (z.trans z2)
theorem gn_s(h:GnX X P n Q D w lo hi u)(hj:j < n)(s:W.stop=true)(v:Vd n W):∃W',Gn X D (rd b P) j u W W'∧Frz n W W':=by
 induction h with
 |no=>exact⟨W,.no rfl,.refl s v⟩
 |yes hn h=>
  obtain⟨i,c,h1,h2,_⟩:=v.look hj
  by_cases hc:c=0
  ·exact⟨W,.zero hn h1 (hc▸h2),.refl s v⟩
  ·obtain⟨a,_,z⟩:=h.stop b W s v
   exact⟨_,.one hn h1 h2 hc a,z⟩
theorem sx_us(hg:GnX X P n Q D w' lo hi u)(hj:j < n∧Q j)(h:SX false X P n Q D Fv w lo hi false [] (fun b=>Xs X D (rd b P) a) (Xs X D (rd true P) a')):SX false X P n Q D Fv (w+w') lo hi false [] (fun b=>Us X D (rd b P) j u a) (Us X D (rd true P) j u a'):=
 h.bind (d':=false) (g':=Fv) (S₂:=fun b=>Us X D (rd b P) j u a) (R₂:=Us X D (rd true P) j u a') (K:=fun b f W r W'=>r=f∧Gn X D (rd b P) j u W W') (L:=fun f W r W'=>r=f∧Gn X D (rd true P) j u W W')
  (fun h1 h2=>h2.1▸.mk h1 h2.2) (fun h1 h2=>h2.1▸.mk h1 h2.2)
  (fun m f W T hf s=>by
   induction hg with
   |no=>exact .mk ⟨rfl,.no rfl⟩ ⟨rfl,.no rfl⟩ (.go hf (s.less (Qw _ _)) .refl)
   |yes hn h=>
    obtain⟨F,p⟩:=s.mp
    obtain⟨i,c,h1,h2,h3,h4⟩:=p.look hj
    by_cases hc:c=0
    ·subst hc;exact .mk ⟨rfl,.zero hn h3 h4⟩ ⟨rfl,.zero hn h1 h2⟩ (.go hf (s.less (Qw _ _)) .refl)
    ·obtain⟨a,b,o⟩:=h.undir s
     induction o with
     |go gx s1 mv=>exact .mk ⟨rfl,.one hn h3 h4 hc a⟩ ⟨rfl,.one hn h1 h2 hc b⟩ (.go hf (s1.less (Qw _ _)) (mv.wide (Qa _) (Qa _) (di_nn _)))
     |ff g1 g2 k q=>exact .mk ⟨rfl,.one hn h3 h4 hc a⟩ ⟨rfl,.one hn h1 h2 hc b⟩ (.ff hf hf k trivial))
  (fun b f W hf s v=>(gn_s (b:=b) hg hj.1 s v).elim fun W' h=>.mk ⟨rfl,h.1⟩ hf h.2) fun f W hf s v=>(gn_s (b:=true) hg hj.1 s v).elim fun W' h=>.mk ⟨rfl,h.1⟩ hf h.2
end
inductive Ro(X:Wd)(D:Nat)(P:RP)(c:Int)(j:Nat)(t a:V)(W:RW)(f:V)(W':RW):Prop
 |mk {y W₁}:Ev X D P t (hol c W) y W₁→j < W₁.lids.length→Xs X D P a (rn j y W₁) f W'→Ro X D P c j t a W f W'
inductive EaR(X:Wd)(D:Nat)(P:RP)(j:Nat)(t a:V)(k y:Int)(W:RW):V→RW→Prop
 |zero:y=0→EaR X D P j t a k y W (flow 4 (.int 0)) W
 |one {f W'}:y=1→Le X D P j t a k [2] W f W'→EaR X D P j t a k y W f W'
 |two {f W'}:y=2→Le X D P j t a k [1,3] W f W'→EaR X D P j t a k y W f W'
 |three {f W'}:y=3→Le X D P j t a k [3,0,2] W f W'→EaR X D P j t a k y W f W'
noncomputable abbrev tuse(j:Nat)(e u a:V):V:=.tup [.int 15,.int (.ofNat j),e,u,a]
section
variable {α:Type}{X:Wd}{P:RP}{n:Nat}{Q Q':Nat→Prop}{D D' m w w' wi wb l i j:Nat}{lo hi lo' hi' k c c' ci z x y:Int}{b d d':Bool}{pre ss ts is is':List V}{W W₁ W₂ T T₁:RW}{e e' e₂ s s' t t' f u u' a a' v q p lp st st' ee:V}{g:V→Prop}{S S' U:Bool→RW→V→RW→Prop}{R R' V':RW→V→RW→Prop}{cs:List Int}
theorem us_R(h1:Ev X (D+1) P e W y W₁)(hj:j < W₁.lids.length)(h:Us X (D+1) P j u a (rn j y W₁) f W₂):Runs X (D+2) 849 [.ref 19,tuse j e u a] (rs P W) (f,rs P W₂):=by
 obtain⟨h2,h3⟩:=h
 induction h3 with
 |no hu=>subst hu;exact us_0 h1 hj h2
 |zero hn hl hc=>exact us_2 h1 hj h2 hn hl hc rfl
 |one hn hl hc c0 h3=>exact us_1 h1 hj h2 hn hl hc c0 h3
theorem xs_using(E:Env P n)(h:XE X P n Q (D+2) w lo hi d pre e e')(hg:GnX X P n Q (D+2) wi lo hi u)(ha:XS X P n Q (D+2) wb lo hi c a a')(hj:j < n∧Q j)(h1:j≠1)(h2:j≠2)(hb:Bare s (tuse j e' u a'))(hw:Wq pre s t):XS X P n Q (D+9) (w+(wb+wi)) lo hi 15 (tuse j e u a) t:=
 have ku:=sx_us hg hj ha.r
 have kz:=fun(W:RW) (s:W.stop=true) (v:Vd n W)=>(gn_s (b:=true) hg hj.1 s v).rec (motive:=fun _=>Zs n Fv (Us X (D+2) (rd true P) j u a') W) fun W' h=>.mk ⟨ha.bt.stop s,h.1⟩ .stop h.2
 xst (D':=D+3) (K:=fun b y W f W'=>j < W.lids.length∧Us X (D+2) (rd b P) j u a (rn j y W) f W') (L:=fun y W f W'=>j < W.lids.length∧Us X (D+2) (rd true P) j u a' (rn j y W) f W') E h (by lia)
  (fun s h k=>x_using (.same rfl) s (o_using (us_R h k.1 k.2))) (fun s h k=>x_using hb s (o_using (us_R h k.1 k.2)))
  (fun m x W T hx s=>(SX.rnp hj.1 h1 h2 hx ku).undir s) (fun x W hx s v=>(SX.rnp hj.1 h1 h2 hx ku).stop false W s v) (fun x W hx s v=>rn_zs hj.1 h1 h2 hx kz s v) ⟨.same rfl⟩ ⟨⟨hb⟩,.inl rfl⟩ hw
theorem SX.holp(hc:rg c)(h:SX false X P n Q D g w lo hi d [] S R):SX false X P n Q D g w lo hi d [] (fun b W=>S b (hol c W)) (fun W=>R (hol c W)):=
 .dir (fun m W T s=>by
  obtain⟨a,b,o⟩:=h.undir (s.hole hc)
  induction o with
  |go gx s2 mv2=>exact .mk a b (.go gx s2 ⟨mv2.cau,mv2.hrd,mv2.hld⟩)
  |ff g1 g2 k q=>exact .mk a b (.ff g1 g2 k q)) fun b W s v=>by
  have z:=Frz.hol s v hc
  obtain⟨a,gx,z2⟩:=h.stop b _ z.st z.vd
  exact .mk a gx (z.trans z2)
theorem sx_ro(hc:rg c)(h:XE X P n Q (D+2) w lo hi d [] t t)(ha:XS X P n Q (D+2) wb lo hi ci a a')(hj:j < n)(h1:j≠1)(h2:j≠2):SX false X P n Q (D+2) Fv (w+wb) lo hi false [] (fun b=>Ro X (D+2) (rd b P) c j t a) (Ro X (D+2) (rd true P) c j t a'):=
 ((SX.holp hc ((h.free.bind (d':=false) (g':=Fv) (S₂:=fun b W f W'=>∃y W₁,Ev X (D+2) (rd b P) t W y W₁∧j < W₁.lids.length∧Xs X (D+2) (rd b P) a (rn j y W₁) f W') (R₂:=fun W f W'=>∃y W₁,Ev X (D+2) (rd true P) t W y W₁∧j < W₁.lids.length∧Xs X (D+2) (rd true P) a' (rn j y W₁) f W') (K:=fun b y W f W'=>j < W.lids.length∧Xs X (D+2) (rd b P) a (rn j y W) f W') (L:=fun y W f W'=>j < W.lids.length∧Xs X (D+2) (rd true P) a' (rn j y W) f W')
  (fun h k=>⟨_,_,h,k⟩) (fun h k=>⟨_,_,h,k⟩) (fun m x W T hx s=>(SX.rnp hj h1 h2 hx ha.r).undir s) (fun b x W hx s v=>(SX.rnp hj h1 h2 hx ha.r).stop b W s v) fun x W hx s v=>rn_zs hj h1 h2 hx (fun W s v=>ha.bt.zs s v) s v).wide (Qd _) (Qa _) (Qa _) (QC _) (di_nn _))).map (Qd _) (fun h=>h.elim fun _ h=>h.elim fun _ h=>.mk h.1 h.2.1 h.2.2) fun h=>h.elim fun _ h=>h.elim fun _ h=>.mk h.1 h.2.1 h.2.2)
structure LeX(X:Wd)(P:RP)(n:Nat)(Q:Nat→Prop)(D w:Nat)(lo hi:Int)(j:Nat)(t a a':V)(k:Int)(cs:List Int):Prop where
 r:SX false X P n Q D Fv w lo hi false [] (fun b=>Le X D (rd b P) j t a k cs) (Le X D (rd true P) j t a' k cs)
 stp:∀W,W.stop=true→Vd n W→Zs n Fv (Le X D (rd true P) j t a' k cs) W
theorem les_nil:LeX X P n Q D 0 lo hi j t a a' k []:=⟨.dir (fun _ _ _ s=>.mk .nil .nil (.go .next s .refl)) fun _ _ s v=>.mk .nil .next (.refl s v),fun _ s v=>.mk .nil .next (.refl s v)⟩
theorem le_ln(h:Ln (Bq (Bg X D P k) (Ro X D P c j t a)) (Le X D P j t a k cs) W f W₁):Le X D P j t a k (c::cs) W f W₁:=by
 induction h with
 |go h hk h2=>obtain⟨b,h1,hj,h⟩:=h;exact .go b h1 hj h hk h2
 |out h hk he=>obtain⟨b,h1,hj,h⟩:=h;exact .out b h1 hj h hk he
theorem les_cons(E:Env P n)(hq:∀a,Q' a→Q a∨P.of[a]?=some (.int k)∧k≠0)(hq2:∀a,Q a→Q' a)(hc:rg c)(h:XE X P n Q' (D+2) w lo hi d [] t t)(ha:XS X P n Q' (D+2) wb lo hi ci a a')(hj:j < n)(h1:j≠1)(h2:j≠2)(hr:LeX X P n Q (D+2) w' lo hi j t a a' k cs):LeX X P n Q (D+2) (w+wb+w') lo hi j t a a' k (c::cs):=
 ⟨((SX.beg E (by lia) hq hq2 (sx_ro hc h ha hj h1 h2)).ln hr.r hr.stp).map (Qd _) le_ln le_ln,fun W s v=>by
  obtain⟨W',b,z⟩:=beginS (X:=X) (D:=D) E (k:=k) (b:=true) s v
  have z1:=Frz.hol z.st z.vd hc
  obtain⟨e,hy,z2⟩:=h.stop true _ z1.st z1.vd
  have z3:=Frz.rn z2.st z2.vd hy h1 h2
  exact .mk (.out b e (z2.vd.len.symm▸hj) (ha.bt.stop z3.st) rfl (.no rfl)) .stop (z.trans (z1.trans (z2.trans z3)))⟩
theorem rg4(h:rg y):y=0∨y=1∨y=2∨y=3:=by unfold rg at h;lia
theorem ea_R(h:Ev X (D+1) P e W y W₁)(h2:EaR X (D+1) P j t a k y W₁ f W₂):Runs X (D+2) 835 [.ref 19,eaS j e a e₂ t k] (rs P W) (f,rs P W₂):=by
 induction h2 with
 |zero q=>subst q;exact each_0 h
 |one q h2=>subst q;exact each_1 h h2
 |two q h2=>subst q;exact each_2 h h2
 |three q h2=>subst q;exact each_3 h h2
theorem xs_each(E:Env P n)(hq:∀a,Q' a→Q a∨P.of[a]?=some (.int k)∧k≠0)(hq2:∀a,Q a→Q' a)(h:XE X P n Q (D+2) wi lo hi d pre e e')(ht:XE X P n Q' (D+2) w lo hi d' [] t t)(ha:XS X P n Q' (D+2) wb lo hi c a a')(hj:j < n)(h1:j≠1)(h2:j≠2)(hb:Bare s (eaS j e' a' e₂ t k))(hw:Wq pre s u):XS X P n Q (D+9) (wi+(w+wb+(w+wb+(w+wb+0)))) lo hi 8 (eaS j e a e₂ t k) u:=by
 have l0:∀{c cs w₂},rg c→LeX X P n Q (D+2) w₂ lo hi j t a a' k cs→LeX X P n Q (D+2) (w+wb+w₂) lo hi j t a a' k (c::cs):=fun hc hr=>les_cons E hq hq2 hc ht ha hj h1 h2 hr
 have l1:=l0 (c:=2) ⟨by decide,by decide⟩ les_nil
 have l2:=l0 (c:=1) ⟨by decide,by decide⟩ (l0 (c:=3) ⟨by decide,by decide⟩ les_nil)
 have l3:=l0 (c:=3) ⟨by decide,by decide⟩ (l0 (c:=0) ⟨by decide,by decide⟩ l1)
 refine xst (D':=D+3) (K:=fun b=>EaR X (D+2) (rd b P) j t a k) (L:=EaR X (D+2) (rd true P) j t a' k) E h (by lia)
  (fun s h q=>x_each (.same rfl) s (o_each (ea_R h q))) (fun s h q=>x_each hb s (o_each (ea_R h q))) (fun m x W T hx s=>?_) (fun x W hx s v=>?_) (fun x W hx s v=>?_) ⟨.same rfl⟩ ⟨⟨hb⟩,.inl rfl⟩ hw
 ·rcases rg4 hx with q|q|q|q
  ·exact .mk (.zero q) (.zero q) (.go (.thr rg0) (s.less (Qw _ _)) .refl)
  ·obtain⟨a,b,o⟩:=l1.r.undir (s.less (m':=m+_) (by lia));exact .mk (.one q a) (.one q b) o
  ·obtain⟨a,b,o⟩:=l2.r.undir (s.less (m':=m+_) (by lia));exact .mk (.two q a) (.two q b) o
  ·obtain⟨a,b,o⟩:=l3.r.undir s;exact .mk (.three q a) (.three q b) o
 ·rcases rg4 hx with q|q|q|q
  ·exact .mk (.zero q) (.thr rg0) (.refl s v)
  ·obtain⟨a,g,z⟩:=l1.r.stop false W s v;exact .mk (.one q a) g z
  ·obtain⟨a,g,z⟩:=l2.r.stop false W s v;exact .mk (.two q a) g z
  ·obtain⟨a,g,z⟩:=l3.r.stop false W s v;exact .mk (.three q a) g z
 ·rcases rg4 hx with q|q|q|q
  ·exact .mk (.zero q) (.thr rg0) (.refl s v)
  ·obtain⟨a,g,z⟩:=l1.stp W s v;exact .mk (.one q a) g z
  ·obtain⟨a,g,z⟩:=l2.stp W s v;exact .mk (.two q a) g z
  ·obtain⟨a,g,z⟩:=l3.stp W s v;exact .mk (.three q a) g z
end
inductive ReR(X:Wd)(D:Nat)(P:RP)(ss:List V)(W:RW)(g:V)(W':RW):Prop
 |mk {f}:Row X D P ss W f W'→EndR f g→ReR X D P ss W g W'
inductive Nd:V→Prop
 |mk {c l}:(c==2)=false→Nd (.tup (.int c::l))
structure TkX(X:Wd)(P:RP)(n:Nat)(Q:Nat→Prop)(D w:Nat)(lo hi:Int)(L:V):Prop where
 r:∀x,rg x→SX false X P n Q D (fun _:Bool=>True) w lo hi false [] (fun b=>Tk X D (rd b P) x L) (Tk X D (rd true P) x L)
 nd:Nd L
structure LpX(X:Wd)(P:RP)(n:Nat)(Q:Nat→Prop)(D w:Nat)(lo hi:Int)(x:Int)(ss ts:List V)(r r':V):Prop where
 r:SX false X P n Q D Fv w lo hi false [] (fun b=>Lp X D (rd b P) x ss r) (Lp X D (rd true P) x ts r')
 stp:∀W,W.stop=true→Vd n W→Zs n Fv (Lp X D (rd true P) x ts r') W
section
variable {α:Type}{X:Wd}{P:RP}{n:Nat}{Q Q':Nat→Prop}{D D' m w w' wi wb l i j:Nat}{lo hi lo' hi' k c c' ci z x y:Int}{b d d':Bool}{pre ss ts is is' rr rr':List V}{W W₁ W₂ T T₁:RW}{e e' e₂ s s' t t' f u u' a a' v q p lp st st' ee L r r':V}{g:V→Prop}{S S' U:Bool→RW→V→RW→Prop}{R R' V':RW→V→RW→Prop}{cs:List Int}
theorem end_x(h:Fv f):∃g,EndR f g∧Fv g:=by
 induction h with
 |next=>exact⟨_,.no rfl,.next⟩
 |brk=>exact⟨_,.brk,.next⟩
 |cont=>exact⟨_,.no rfl,.cont⟩
 |ret0=>exact⟨_,.no rfl,.ret0⟩
 |ret=>exact⟨_,.no rfl,.ret⟩
 |thr h=>exact⟨_,.no rfl,.thr h⟩
 |stop=>exact⟨_,.no rfl,.stop⟩
theorem re_zs{ss:List V}(h:Zs n Fv (Row X D P ss) W):Zs n Fv (ReR X D P ss) W:=by
 obtain⟨a,g,z⟩:=h
 obtain⟨g',he,hg⟩:=end_x g
 exact .mk ⟨a,he⟩ hg z
theorem sx_re(h:XR X P n Q D w lo hi ss ts):SX false X P n Q D Fv w lo hi false [] (fun b=>ReR X D (rd b P) ss) (ReR X D (rd true P) ts):=
 .dir (fun m W T s=>by
  obtain⟨a,b,o⟩:=h.r.undir s
  induction o with
  |go gx s1 mv=>obtain⟨g',he,hg⟩:=end_x gx;exact .mk ⟨a,he⟩ ⟨b,he⟩ (.go hg s1 mv)
  |ff g1 g2 k q=>
   obtain⟨_,he,hg⟩:=end_x g1
   obtain⟨_,he',hg'⟩:=end_x g2
   exact .mk ⟨a,he⟩ ⟨b,he'⟩ (.ff hg hg' k q)) fun b W s v=>re_zs (h.r.stop b W s v)
theorem lp_nil(h:XR X P n Q D w lo hi rr rr'):LpX X P n Q (D+1) w lo hi x [] [] (.tup rr) (.tup rr'):=
 ⟨(sx_re h).map (Qn _) (fun h=>h.rec fun a b=>.nil (row_ok a) b) fun h=>h.rec fun a b=>.nil (row_ok a) b,fun W s v=>(re_zs (h.stp W s v)).rec fun a g z=>.mk (a.rec fun a b=>.nil (row_ok a) b) g z⟩
noncomputable abbrev tsec(L:V)(ds:List V)(ss:List V):V:=.tup [.tup (L::ds),.tup ss]
theorem lp_sec{ds:List V}(hx:rg x)(hL:TkX X P n Q (D+1) w lo hi L)(h:XR X P n Q D w' lo hi rr rr')(ht:LpX X P n Q (D+1) w' lo hi x ss ts u u')(js:∀{b W W₁ g W₂},Tk X (D+1) (rd b P) x L W false W₁→Lp X (D+1) (rd b P) x ss u W₁ g W₂→Lp X (D+1) (rd b P) x (tsec L ds rr::ss) r W g W₂)(jr:∀{W W₁ g W₂},Tk X (D+1) (rd true P) x L W false W₁→Lp X (D+1) (rd true P) x ts u' W₁ g W₂→Lp X (D+1) (rd true P) x (tsec L ds rr'::ts) r' W g W₂):LpX X P n Q (D+1) (w+w') lo hi x (tsec L ds rr::ss) (tsec L ds rr'::ts) r r':=by
 have hit:∀{P:RP} {W W₁ g W₂ rr ss r},Tk X (D+1) P x L W true W₁→ReR X D P rr W₁ g W₂→Lp X (D+1) P x (tsec L ds rr::ss) r W g W₂:=fun a b=>by
  have nd:=hL.nd
  obtain⟨b,e⟩:=b
  induction nd with
  |mk hc=>exact .hit hc a (row_ok b) e
 have kz:∀(t:Bool) (W:RW),W.stop=true→Vd n W→Zs n Fv (fun W g W'=>t=true∧ReR X D (rd true P) rr' W g W'∨t=false∧Lp X (D+1) (rd true P) x ts u' W g W') W:=fun t W s v=>by
  induction t with
  |true=>exact(re_zs (h.stp W s v)).rec fun a g z=>.mk (.inl ⟨rfl,a⟩) g z
  |false=>exact(ht.stp W s v).rec fun a g z=>.mk (.inr ⟨rfl,a⟩) g z
 refine⟨(hL.r x hx).bind (d':=false) (g':=Fv) (S₂:=fun b=>Lp X (D+1) (rd b P) x (tsec L ds rr::ss) r) (R₂:=Lp X (D+1) (rd true P) x (tsec L ds rr'::ts) r') (K:=fun b t W g W'=>t=true∧ReR X D (rd b P) rr W g W'∨t=false∧Lp X (D+1) (rd b P) x ss u W g W') (L:=fun t W g W'=>t=true∧ReR X D (rd true P) rr' W g W'∨t=false∧Lp X (D+1) (rd true P) x ts u' W g W')
  (fun h1 h2=>?_) (fun h1 h2=>?_) (fun m t W T _ s=>?_) (fun b t W _ s v=>?_) (fun t W _ s v=>kz t W s v),fun W s v=>?_⟩
 ·rcases h2 with⟨rfl,h2⟩|⟨rfl,h2⟩
  ·exact hit h1 h2
  ·exact js h1 h2
 ·rcases h2 with⟨rfl,h2⟩|⟨rfl,h2⟩
  ·exact hit h1 h2
  ·exact jr h1 h2
 ·cases t with
  |true=>obtain⟨a,b,o⟩:=(sx_re h).undir s;exact .mk (.inl ⟨rfl,a⟩) (.inl ⟨rfl,b⟩) o
  |false=>obtain⟨a,b,o⟩:=ht.r.undir s;exact .mk (.inr ⟨rfl,a⟩) (.inr ⟨rfl,b⟩) o
 ·cases t with
  |true=>exact((sx_re h).stop b W s v).rec fun a g z=>.mk (.inl ⟨rfl,a⟩) g z
  |false=>exact(ht.r.stop b W s v).rec fun a g z=>.mk (.inr ⟨rfl,a⟩) g z
 ·obtain @⟨tt,W',a,_,z⟩:=(hL.r x hx).stop true W s v
  obtain⟨b,g,z2⟩:=kz tt W' z.st z.vd
  rcases b with⟨rfl,b⟩|⟨rfl,b⟩
  ·exact .mk (hit a b) g (z.trans z2)
  ·exact .mk (jr a b) g (z.trans z2)
theorem lp_0(hx:rg x)(hL:TkX X P n Q (D+1) w lo hi L)(h:XR X P n Q D w' lo hi rr rr')(ht:LpX X P n Q (D+1) w' lo hi x ss ts r r'):LpX X P n Q (D+1) (w+w') lo hi x (tsec L [] rr::ss) (tsec L [] rr'::ts) r r':=
 lp_sec hx hL h ht (fun a b=>hL.nd.rec (motive:=fun L _=>Tk X (D+1) _ x L _ false _→Lp X (D+1) _ x (tsec L [] rr::ss) r _ _ _) (fun hc a=>.miss hc a b) a) fun a b=>hL.nd.rec (motive:=fun L _=>Tk X (D+1) _ x L _ false _→Lp X (D+1) _ x (tsec L [] rr'::ts) r' _ _ _) (fun hc a=>.miss hc a b) a
theorem lp_1(hx:rg x)(hL:TkX X P n Q (D+1) w lo hi L)(h:XR X P n Q D w' lo hi rr rr')(ht:LpX X P n Q (D+1) w' lo hi x ss ts (.tup rr) (.tup rr')):LpX X P n Q (D+1) (w+w') lo hi x (tsec L [.tup [.int 2]] rr::ss) (tsec L [.tup [.int 2]] rr'::ts) r r':=
 lp_sec hx hL h ht (fun a b=>hL.nd.rec (motive:=fun L _=>Tk X (D+1) _ x L _ false _→Lp X (D+1) _ x (tsec L [.tup [.int 2]] rr::ss) r _ _ _) (fun hc a=>.missd hc a b) a) fun a b=>hL.nd.rec (motive:=fun L _=>Tk X (D+1) _ x L _ false _→Lp X (D+1) _ x (tsec L [.tup [.int 2]] rr'::ts) r' _ _ _) (fun hc a=>.missd hc a b) a
end
inductive WhX(X:Wd)(P:RP)(n:Nat)(Q:Nat→Prop)(D w:Nat)(lo hi:Int):V→Prop
 |no:WhX X P n Q D w lo hi .none
 |yes {u d}:isNv u=false→XE X P n Q D w lo hi d [] u u→WhX X P n Q D w lo hi u
noncomputable abbrev ttype(k:Int)(l:Nat)(e:V):V:=.tup [.int 3,.int k,.int (.ofNat l),e]
noncomputable abbrev tsw(e:V)(ss:List V)(j:Nat):V:=.tup [.int 9,e,.tup ss,.int (.ofNat j)]
section
variable {α:Type}{X:Wd}{P:RP}{n:Nat}{Q Q':Nat→Prop}{D D' m w w' wi wb l i j:Nat}{lo hi lo' hi' k c c' ci z x y:Int}{b d d' t:Bool}{pre ss ts is is' rr rr':List V}{W W₁ W₂ T T₁:RW}{e e' e₂ s s' t' f u u' a a' v q p lp st st' ee L r r':V}{g:V→Prop}{S S' U:Bool→RW→V→RW→Prop}{R R' V':RW→V→RW→Prop}{cs:List Int}
theorem sx_when(h:WhX X P n Q D w lo hi e):SX false X P n Q D (fun _:Bool=>True) w lo hi false [] (fun b W=>WhenR X D (rd b P) W e) (fun W=>WhenR X D (rd true P) W e):=by
 cases h with
 |no=>exact .dir (fun _ _ _ s=>.mk .no .no (.go trivial (s.less (Qw _ _)) .refl)) fun _ _ s v=>.mk .no trivial (.refl s v)
 |yes hn h=>
  exact(h.free.bind0 (g':=fun _:Bool=>True) (S₂:=fun b W=>WhenR X D (rd b P) W e) (R₂:=fun W=>WhenR X D (rd true P) W e) (K:=fun _ y W t W'=>t=(y % 2==1)∧W'=W) (L:=fun y W t W'=>t=(y % 2==1)∧W'=W) (fun h k=>k.1▸k.2▸.yes hn h) (fun h k=>k.1▸k.2▸.yes hn h)
   (fun _ _ _ _ _ s=>.mk ⟨rfl,rfl⟩ ⟨rfl,rfl⟩ (.go trivial s .refl)) (fun _ _ _ _ s v=>.mk ⟨rfl,rfl⟩ trivial (.refl s v)) fun _ _ _ s v=>.mk ⟨rfl,rfl⟩ trivial (.refl s v)).wide (Qd _) (Qa _) (Qa _) (QC _) (di_nn _)
theorem putL2(s:Simu n Q m W T)(hl:l=0∨l < n∧Q l)(hx:rg x):∃W' T',PutL X (D+1) (rd false P) l x W W'∧PutL X (D+1) (rd true P) l x T T'∧Simu n Q m W' T'∧Mv lo hi 0 W T W' T':=by
 by_cases h0:l=0
 ·exact⟨W,T,.no h0,.no h0,s,.refl⟩
 ·obtain⟨W',T',h1,h2,h3⟩:=put2 (X:=X) (D:=D) (P:=P) (lo:=lo) (hi:=hi) s (hl.resolve_left h0) hx
  exact⟨W',T',.yes h0 h1,.yes h0 h2,h3⟩
theorem putLS(s:W.stop=true):PutL X (D+1) P l x W W:=by
 by_cases h0:l=0
 ·exact .no h0
 ·exact .yes h0 (put_stop s)
theorem tkx_const:TkX X P n Q (D+1) 0 lo hi (.tup [.int 1,.int y]):=⟨fun _ _=>.dir (fun _ _ _ s=>.mk tk_const tk_const (.go trivial s .refl)) fun _ _ s v=>.mk tk_const trivial (.refl s v),⟨rfl⟩⟩
theorem tkx_null:TkX X P n Q (D+1) 0 lo hi (.tup [.int 4]):=⟨fun _ _=>.dir (fun _ _ _ s=>.mk tk_null tk_null (.go trivial s .refl)) fun _ _ s v=>.mk tk_null trivial (.refl s v),⟨rfl⟩⟩
theorem tk_or(x k:Int):(x=2∨x=1∧k=16)∨(x≠2∧(x≠1∨k≠16)):=by lia
theorem tkx_type(hl:l=0∨l < n∧Q l)(h:WhX X P n Q (D+1) w lo hi e):TkX X P n Q (D+2) w lo hi (ttype k l e):=
 ⟨fun x hx=>by
  rcases tk_or x k with q|⟨q1,q2⟩
  ·exact .dir (fun m W T s=>by
    obtain⟨W',T',h1,h2,s1,mv⟩:=putL2 (X:=X) (D:=D) (P:=P) (lo:=lo) (hi:=hi) s hl hx
    exact Gx.aft mv ((sx_when h).undir s1) (fun _ _ a=>tk_yes q h1 a) fun _ _ a=>tk_yes q h2 a) fun b W s v=>((sx_when h).stop b W s v).rec fun a g z=>.mk (tk_yes q (putLS s) a) g z
  ·exact .dir (fun m W T s=>.mk (tk_no q1 q2) (tk_no q1 q2) (.go trivial (s.less (Qw _ _)) .refl)) fun b W s v=>.mk (tk_no q1 q2) trivial (.refl s v),⟨rfl⟩⟩
inductive PiR(X:Wd)(D:Nat)(P:RP)(j:Nat)(ss:List V)(x:Int)(W:RW)(f:V)(W':RW):Prop
 |no:j=0→Lp X D P x ss (.tup []) W f W'→PiR X D P j ss x W f W'
 |yes:j≠0→j < W.lids.length→Lp X D P x ss (.tup []) (rn j x W) f W'→PiR X D P j ss x W f W'
theorem pi_x(h:Ev X (D+1) P e W x W₁)(h1:PiR X (D+1) P j ss x W₁ f W₂):Runs X (D+2) 842 [.ref 19,tsw e ss j] (rs P W) (f,rs P W₂):=by
 induction h1 with
 |no h0 h1=>subst h0;exact pick_0 h h1
 |yes h0 hj h1=>exact pick_1 h h0 hj h1
theorem xs_switch(E:Env P n)(h:XE X P n Q (D+2) wi lo hi d pre e e')(hp:∀x,rg x→LpX X P n Q (D+2) w lo hi x ss ts (.tup []) (.tup []))(hj:j=0∨j < n∧j≠1∧j≠2)(hb:Bare s (tsw e' ts j))(hw:Wq pre s u):XS X P n Q (D+9) (wi+w) lo hi 9 (tsw e ss j) u:=by
 refine xst (D':=D+3) (K:=fun b=>PiR X (D+2) (rd b P) j ss) (L:=PiR X (D+2) (rd true P) j ts) E h (by lia)
  (fun s h q=>x_switch (.same rfl) s (o_switch (pi_x h q))) (fun s h q=>x_switch hb s (o_switch (pi_x h q))) (fun m x W T hx s=>?_) (fun x W hx s v=>?_) (fun x W hx s v=>?_) ⟨.same rfl⟩ ⟨⟨hb⟩,.inl rfl⟩ hw
 ·by_cases h0:j=0
  ·obtain⟨a,b,o⟩:=(hp x hx).r.undir s;exact .mk (.no h0 a) (.no h0 b) o
  ·obtain⟨h1,h2,h3⟩:=hj.resolve_left h0
   obtain⟨a,b,o⟩:=(SX.rnp h1 h2 h3 hx (hp x hx).r).undir s;exact .mk (.yes h0 a.1 a.2) (.yes h0 b.1 b.2) o
 ·by_cases h0:j=0
  ·obtain⟨a,g,z⟩:=(hp x hx).r.stop false W s v;exact .mk (.no h0 a) g z
  ·obtain⟨h1,h2,h3⟩:=hj.resolve_left h0
   obtain⟨a,g,z⟩:=(SX.rnp h1 h2 h3 hx (hp x hx).r).stop false W s v;exact .mk (.yes h0 a.1 a.2) g z
 ·by_cases h0:j=0
  ·obtain⟨a,g,z⟩:=(hp x hx).stp W s v;exact .mk (.no h0 a) g z
  ·obtain⟨h1,h2,h3⟩:=hj.resolve_left h0
   obtain⟨a,g,z⟩:=rn_zs h1 h2 h3 hx (hp x hx).stp s v;exact .mk (.yes h0 a.1 a.2) g z
end
inductive MidR(X:Wd)(D:Nat)(P:RP)(x:Int)(hs rest:List V)(t:Bool)(W:RW)(f:V):RW→Prop
 |hit {W'}:t=true→W.caught.length < LIM→Row X D P hs (psh (.int x) W) f W'→0 < W'.caught.length→MidR X D P x hs rest t W f (pop W')
 |miss {W'}:t=false→Hs X (D+1) P x rest W f W'→MidR X D P x hs rest t W f W'
structure HsX(X:Wd)(P:RP)(n:Nat)(Q:Nat→Prop)(D w:Nat)(lo hi:Int)(ss ts:List V):Prop where
 go:∀x m W T,rg x→Simu n Q (m+w) W T→Gx false n Q Fv m lo hi 0 W T (Hs X D (rd false P) x ss W) (Hs X D (rd true P) x ts T)
 ss:∀b x W,rg x→W.stop=true→Vd n W→W.caught.length < LIM→Zs n Fv (Hs X D (rd b P) x ss) W
 st:∀x W,rg x→W.stop=true→Vd n W→W.caught.length < LIM→Zs n Fv (Hs X D (rd true P) x ts) W
section
variable {α:Type}{X:Wd}{P:RP}{n:Nat}{Q Q' Q₂:Nat→Prop}{D D' m w w' wi wb l i j:Nat}{lo hi lo' hi' k c c' ci z x y:Int}{b d d' t:Bool}{pre ss ts is is' rr rr' hs hs':List V}{W W₁ W₂ T T₁:RW}{e e' e₂ s s' t' f u u' a a' v q p lp st st' ee L r r':V}{g:V→Prop}{S S' U:Bool→RW→V→RW→Prop}{R R' V':RW→V→RW→Prop}{cs:List Int}
theorem blk_hd(hl:(((hs.length:Nat):Int)==1)=false)(h:Row X D P hs W f W₁):Runs X (D+2) 814 [.ref 19,.tup [.int 3,.tup hs,.int k],.bool true] (rs P W) (f,rs P W₁):=.by 32 rfl fun q=>q false hl _ _ (row_ok h)
theorem mid_hs(hb:Bare v (tblk hs k))(hl:(((hs.length:Nat):Int)==1)=false)(h:Ca X (D+1) P x z l u v W t W₁)(h1:MidR X D P x hs rr t W₁ f W₂):Hs X (D+1) P x (.tup [.int z,.int (.ofNat l),u,v]::rr) W f W₂:=by
 induction h1 with
 |hit e hc r h0=>subst e;exact .hit h hc ⟨hb⟩ (blk_hd hl r) h0
 |miss e r=>subst e;exact .miss h r
theorem mid_s(hx:rg x)(s:W.stop=true)(vd:Vd n W)(hc:W.caught.length < LIM)(h1:∀W,W.stop=true→Vd n W→Zs n Fv (Row X D P hs) W)(h2:Zs n Fv (Hs X (D+1) P x rr) W):Zs n Fv (MidR X D P x hs rr t) W:=by
 induction t with
 |true=>
  obtain⟨a,g,z⟩:=h1 (psh (.int x) W) s (vd.psh hx)
  have e:_=W.caught++[V.int x]:=z.cau
  exact .mk (.hit rfl hc a (by rw[e,Qb];exact Nat.succ_pos _)) g ⟨z.st,z.vd.pop,by show List.dropLast _=_;rw[e,List.dropLast_concat],z.ob,z.hld⟩
 |false=>exact h2.rec fun a g z=>.mk (.miss rfl a) g z
theorem mid_2(hx:rg x)(s:Simu n Q' (m+(w+1)) W T)(hq:∀a,Q a→a < n→Q' a)(hq':∀a,Q₂ a→a < n→Q' a)(hq2:∀a,Q a→a < n→Q₂ a)(hc:Q n→W.caught≠[])(h1:XR X P n Q₂ D w lo hi hs hs')(h2:t=false→Gx false n Q Fv m lo hi 0 W T (Hs X (D+1) (rd false P) x rr W) (Hs X (D+1) (rd true P) x rr' T)):Gx false n Q Fv m lo hi 0 W T (MidR X D (rd false P) x hs rr t W) (MidR X D (rd true P) x hs' rr' t T):=by
 induction t with
 |true=>
  obtain⟨a,b,o⟩:=h1.r.undir (Simu.psh (R:=Q₂) (s.less (m':=m+w+1) (by lia)) hx hq')
  have l1:=s.lims.2.2.2
  have l2:=s.cau▸l1
  induction o with
  |go gx s1 mv=>
   have e:_=W.caught++[V.int x]:=mv.cau
   have e2:=s1.cau.symm.trans e
   have p:∀{l:List V},l=W.caught++[V.int x]→0 < l.length:=fun e=>by rw[e,Qb];exact Nat.succ_pos _
   exact .mk (.hit rfl l1 a (p e)) (.hit rfl l2 b (p e2)) (.go gx (s1.pop hq2 fun h=>by rw[e,List.dropLast_concat];exact hc h) ⟨by show List.dropLast _=_;rw[e,List.dropLast_concat],mv.hrd,mv.hld⟩)
  |ff g1 g2 k q=>
   have e:_=W.caught++[V.int x]:=k.cs
   have e2:_=W.caught++[V.int x]:=k.ct
   have p:∀{l:List V},l=W.caught++[V.int x]→0 < l.length:=fun e=>by rw[e,Qb];exact Nat.succ_pos _
   exact .mk (.hit rfl l1 a (p e)) (.hit rfl l2 b (p e2)) (.ff g1 g2 ⟨k.ss,k.st,k.vs.pop,k.vt.pop,by show List.dropLast _=_;rw[e,List.dropLast_concat],by show List.dropLast _=_;rw[e2,List.dropLast_concat],k.ob⟩ trivial)
 |false=>
  obtain⟨a,b,o⟩:=h2 rfl
  exact .mk (.miss rfl a) (.miss rfl b) o
end
structure FinX(X:Wd)(P:RP)(n:Nat)(Q:Nat→Prop)(D w:Nat)(lo hi:Int)(u u':V):Prop where
 go:∀f m W T,Fv f→Simu n Q (m+w) W T→Gx false n Q Fv m lo hi 0 W T (FinR X D (rd false P) u f W) (FinR X D (rd true P) u' f T)
 ss:∀f W,Fv f→W.stop=true→Vd n W→Zs n Fv (FinR X D (rd false P) u f) W
 st:∀f W,Fv f→W.stop=true→Vd n W→Zs n Fv (FinR X D (rd true P) u' f) W
inductive TrR(X:Wd)(D:Nat)(P:RP)(ss:List V)(u:V)(f:V)(W:RW)(g:V)(W':RW):Prop
 |no {k v}:f=flow k v→(k==4)=false→FinR X (D+2) P u (flow k v) W g W'→TrR X D P ss u f W g W'
 |yes {x f₂ W₁}:f=flow 4 (.int x)→Hs X (D+1) P x ss W f₂ W₁→FinR X (D+2) P u f₂ W₁ g W'→TrR X D P ss u f W g W'
noncomputable abbrev ttry(a:V)(ss:List V)(u:V):V:=.tup [.int 14,a,.tup ss,u]
section
variable {α:Type}{X:Wd}{P:RP}{n:Nat}{Q Q' Q₂:Nat→Prop}{D D' m w w' wi wb l i j:Nat}{lo hi lo' hi' k c c' ci z x y:Int}{b d d' t:Bool}{pre ss ts is is' rr rr' hs hs':List V}{W W₁ W₂ T T₁:RW}{e e' e₂ s s' t' f u u' a a' v q p lp st st' ee L r r':V}{g:V→Prop}{S S' U:Bool→RW→V→RW→Prop}{R R' V':RW→V→RW→Prop}{cs:List Int}
theorem hs_nil:HsX X P n Q D 0 lo hi [] []:=⟨fun _ _ _ _ hx s=>.mk .nil .nil (.go (.thr hx) s .refl),fun _ _ _ hx s v _=>.mk .nil (.thr hx) (.refl s v),fun _ _ hx s v _=>.mk .nil (.thr hx) (.refl s v)⟩
theorem ct_x(hz:z=16∨z=-1∨z=17):Ct x z true∨Ct x z false:=by
 rcases hz with rfl|rfl|rfl
 ·cases h:(!((1:Int)==x||((2:Int)==x||false)))with
  |true=>exact .inl (.n16 h)
  |false=>exact .inr (.y16 h)
 ·exact .inr .all
 ·cases h:(!(x==2))with
  |true=>exact .inl (.n17 h)
  |false=>exact .inr (.y17 h)
theorem putF_s(hl:l=0∨l < n∧l≠1∧l≠2)(hx:rg x)(s:W.stop=true)(v:Vd n W):∃W',PutF x l W W'∧Frz n W W':=by
 rcases hl with rfl|⟨h1,h2,h3⟩
 ·exact⟨W,.no,.refl s v⟩
 ·by_cases h0:l=0
  ·subst h0;exact⟨W,.no,.refl s v⟩
  ·exact⟨_,.yes h0 (v.len.symm▸h1),.rn s v hx h2 h3⟩
theorem putF_2(hl:l=0∨l < n∧l≠1∧l≠2)(hx:rg x)(s:Simu n Q m W T):∃W' T',PutF x l W W'∧PutF x l T T'∧Simu n Q m W' T'∧Mv lo hi 0 W T W' T':=by
 rcases hl with rfl|⟨h1,h2,h3⟩
 ·exact⟨W,T,.no,.no,s,.refl⟩
 ·by_cases h0:l=0
  ·subst h0;exact⟨W,T,.no,.no,s,.refl⟩
  ·exact⟨_,_,.yes h0 (s.vs.len.symm▸h1),.yes h0 (s.vt.len.symm▸h1),s.rn h1 hx fun _ h=>.inl h,rfl,Int.le_of_eq (Int.add_zero _),.refl⟩
theorem hs_1(E:Env P n)(hb:Bare v (tblk hs k))(hn:(((hs.length:Nat):Int)==1)=false)(hz:z=16∨z=-1∨z=17)(hl:l=0∨l < n∧l≠1∧l≠2)(hu:∀W,W.stop=true→Vd n W→Zs n (fun _:Bool=>True) (fun W=>WhenR X (D+3) (rd b P) W u) W)(h1:∀W,W.stop=true→Vd n W→Zs n Fv (Row X (D+2) (rd b P) hs) W)(hx:rg x)(s:W.stop=true)(vd:Vd n W)(hc:W.caught.length < LIM)(h2:∀W,W.stop=true→Vd n W→W.caught.length < LIM→Zs n Fv (Hs X (D+3) (rd b P) x rr) W):Zs n Fv (Hs X (D+3) (rd b P) x (.tup [.int z,.int (.ofNat l),u,v]::rr)) W:=by
 rcases ct_x (x:=x) hz with q|q
 ·exact(mid_s (D:=D+2) (t:=false) hx s vd hc h1 (h2 W s vd hc)).rec fun a g z=>.mk (mid_hs hb hn (.no q) a) g z
 ·obtain⟨W₁,b1,z1⟩:=beginS (X:=X) (D:=D+1) E (k:=k) (b:=b) s vd
  obtain⟨W₂,b2,z2⟩:=putF_s hl hx z1.st z1.vd
  obtain⟨b3,_,z3⟩:=hu W₂ z2.st z2.vd
  have zz:=z1.trans (z2.trans z3)
  have hc:=zz.cau.symm▸hc
  exact(mid_s (D:=D+2) hx zz.st zz.vd hc h1 (h2 _ zz.st zz.vd hc)).rec fun a g z=>.mk (mid_hs hb hn (.yes q ⟨hb⟩ b1 b2 b3) a) g (zz.trans z)
theorem hs_cons(E:Env P n)(hq:∀a,Q' a→Q a∨P.of[a]?=some (.int k)∧k≠0)(hq2:∀a,Q a→Q' a)(hq3:∀a,Q₂ a→a < n→Q' a)(hq4:∀a,Q a→a < n→Q₂ a)(hb:Bare v (tblk hs' k))(hn:(((hs.length:Nat):Int)==1)=false)(hz:z=16∨z=-1∨z=17)(hl:l=0∨l < n∧l≠1∧l≠2)(hu:WhX X P n Q' (D+3) wi lo hi u)(h1:XR X P n Q₂ (D+2) w lo hi hs hs')(hr:HsX X P n Q (D+3) w' lo hi rr rr'):HsX X P n Q (D+3) (wi+(w+1+w')) lo hi (.tup [.int z,.int (.ofNat l),u,tblk hs k]::rr) (.tup [.int z,.int (.ofNat l),u,v]::rr'):=by
 have hn':(((hs'.length:Nat):Int)==1)=false:=h1.len▸hn
 have es:=fun b x (W:RW) (hx:rg x) (s:W.stop=true) (vd:Vd n W) (hc:W.caught.length < LIM)=>hs_1 (X:=X) (b:=b) (v:=tblk hs k) E (.same rfl) hn hz hl (fun W s v=>(sx_when hu).stop b W s v) (fun W s v=>h1.r.stop b W s v) hx s vd hc fun W s v c=>hr.ss b x W hx s v c
 have et:=fun x (W:RW) (hx:rg x) (s:W.stop=true) (vd:Vd n W) (hc:W.caught.length < LIM)=>hs_1 (X:=X) (b:=true) E hb hn' hz hl (fun W s v=>(sx_when hu).stop true W s v) h1.stp hx s vd hc fun W s v c=>hr.st x W hx s v c
 refine⟨fun x m W T hx s=>?_,es,et⟩
 have rest:Gx false n Q Fv m lo hi 0 W T (Hs X (D+3) (rd false P) x rr W) (Hs X (D+3) (rd true P) x rr' T):=hr.go x m W T hx (s.less (by lia))
 rcases ct_x (x:=x) hz with q|q
 ·obtain⟨a,b,o⟩:=rest
  exact .mk (.miss (.no q) a) (.miss (.no q) b) o
 ·obtain⟨W₁,T₁,b1,b2,s1,mv1⟩:=begin2 (X:=X) (D:=D+1) (lo:=lo) (hi:=hi) E s hq
  obtain⟨W₂,T₂,p1,p2,s2,mv2⟩:=putF_2 (lo:=lo) (hi:=hi) hl hx s1
  have mv:=mv1.trans mv2
  obtain⟨w1,w2,o⟩:=(sx_when hu).undir (m:=m+(w+1+w')) (s2.less (by lia))
  induction o with
  |go _ s3 mv3=>
   have mv:=mv.trans mv3
   obtain⟨a,b,o⟩:=mid_2 (X:=X) (D:=D+2) (m:=m) (w:=w) hx (s3.less (by lia)) (fun a h _=>hq2 a h) hq3 hq4 (fun h=>mv.cau▸s.cne h) h1 fun _=>hr.go x m _ _ hx (s3.mono hq2 (by lia))
   exact Gx.aft (mv.wide (Qa _) (Qa _) (by decide)) (.mk a b o) (fun _ _ a=>mid_hs (.same rfl) hn (.yes q ⟨.same rfl⟩ b1 p1 w1) a) fun _ _ b=>mid_hs hb hn' (.yes q ⟨hb⟩ b2 p2 w2) b
  |ff _ _ k qq=>
   have lc:=s.lims.2.2.2
   have kc:=k.cs.trans mv.cau
   have kt:=k.ct.trans mv.cau
   obtain⟨a,g1,z1⟩:=mid_s (D:=D+2) hx k.ss k.vs (kc▸lc) (fun W s v=>h1.r.stop false W s v) (hr.ss false x _ hx k.ss k.vs (kc▸lc))
   obtain⟨b,g2,z2⟩:=mid_s (D:=D+2) hx k.st k.vt (kt▸lc) h1.stp (hr.st x _ hx k.st k.vt (kt▸lc))
   exact .mk (mid_hs (.same rfl) hn (.yes q ⟨.same rfl⟩ b1 p1 w1) a) (mid_hs hb hn' (.yes q ⟨hb⟩ b2 p2 w2) b) (.ff g1 g2 ((k.step z1 z2).cast mv.cau) trivial)
end
inductive F4:V→Prop
 |no {k v}:(k==4)=false→F4 (flow k v)
 |yes {x}:rg x→F4 (flow 4 (.int x))
section
variable {α:Type}{X:Wd}{P:RP}{n:Nat}{Q Q' Q₂:Nat→Prop}{D D' m w w' wi wb l i j:Nat}{lo hi lo' hi' k c c' ci z x y:Int}{b d d' t:Bool}{pre ss ts is is' rr rr' hs hs':List V}{W W₁ W₂ T T₁:RW}{e e' e₂ s s' t' f f' u u' a a' v q p lp st st' ee L r r':V}{g:V→Prop}{S S' U:Bool→RW→V→RW→Prop}{R R' V':RW→V→RW→Prop}{cs:List Int}
theorem fin_none:FinX X P n Q D 0 lo hi .none .none:=⟨fun _ _ _ _ hf s=>.mk .none .none (.go hf s .refl),fun _ _ hf s v=>.mk .none hf (.refl s v),fun _ _ hf s v=>.mk .none hf (.refl s v)⟩
noncomputable def lst(f u:V):V:=@Option.casesOn _ (fun _=>V) (subN [] u (.int 0)) f fun v=>@Bool.rec (fun _=>V) u f (@V.casesOn (fun _=>Bool) v false (fun _=>false) (fun i=>i==0) (fun _=>false) (fun _=>false) (fun _=>false) (fun _=>false) (fun _=>false))
theorem fin_r(hn:isNv u=false)(hf:Fv f)(hg:Fv f')(h:Xs X D P u W f' W₁):FinR X D P u f W (lst f f') W₁∧Fv (lst f f'):=by
 induction hg with
 |next=>exact⟨.pass hn h,hf⟩
 |brk=>exact⟨.last hn h rfl,.brk⟩
 |cont=>exact⟨.last hn h rfl,.cont⟩
 |ret0=>exact⟨.last hn h rfl,.ret0⟩
 |ret=>exact⟨.last hn h rfl,.ret⟩
 |thr q=>exact⟨.last hn h rfl,.thr q⟩
 |stop=>exact⟨.last hn h rfl,.stop⟩
theorem fin_some(h:XS X P n Q (D+2) w lo hi c u u'):FinX X P n Q (D+2) w lo hi u u':=
 ⟨fun f m W T hf s=>by
  obtain⟨a,b,o⟩:=h.r.undir s
  induction o with
  |go gx s1 mv=>exact .mk (fin_r h.bs.nn hf gx a).1 (fin_r h.bt.nn hf gx b).1 (.go (fin_r h.bs.nn hf gx a).2 s1 mv)
  |ff g1 g2 k q=>exact .mk (fin_r h.bs.nn hf g1 a).1 (fin_r h.bt.nn hf g2 b).1 (.ff (fin_r h.bs.nn hf g1 a).2 (fin_r h.bt.nn hf g2 b).2 k q),
  fun f W hf s v=>.mk (.last h.bs.nn (h.bs.stop s) rfl) .stop (.refl s v),fun f W hf s v=>.mk (.last h.bt.nn (h.bt.stop s) rfl) .stop (.refl s v)⟩
theorem Fv.f4(h:Fv f):F4 f:=by
 induction h with
 |thr h=>exact .yes h
 |_=>exact .no rfl
theorem tr_s{P':RP}(hf:Fv f)(s:W.stop=true)(v:Vd n W)(hc:W.caught.length < LIM)(h1:∀x W,rg x→W.stop=true→Vd n W→W.caught.length < LIM→Zs n Fv (Hs X (D+1) P' x ss) W)(h2:∀f W,Fv f→W.stop=true→Vd n W→Zs n Fv (FinR X (D+2) P' u f) W):Zs n Fv (TrR X D P' ss u f) W:=by
 have q:=hf.f4
 induction q with
 |no hk=>exact(h2 _ W hf s v).rec fun a g z=>.mk (.no rfl hk a) g z
 |yes hx=>
  obtain⟨a,g,z⟩:=h1 _ W hx s v hc
  exact(h2 _ _ g z.st z.vd).rec fun b g2 z2=>.mk (.yes rfl a b) g2 (z.trans z2)
theorem tr_x(h:Xs X (D+2) P a W f W₁)(h1:TrR X D P ss u f W₁ v W₂):Runs X (D+3) 863 [.ref 19,ttry a ss u] (rs P W) (v,rs P W₂):=by
 induction h1 with
 |no e hk h1=>subst e;exact try_no h hk h1
 |yes e h1 h2=>subst e;exact try_ok h h1 h2
theorem xs_try(ha:XS X P n Q (D+4) w lo hi c a a')(hh:HsX X P n Q (D+3) w' lo hi ss ts)(hf:FinX X P n Q (D+4) wi lo hi u u')(hb:Bare t' (ttry a' ts u')):XS X P n Q (D+7) (w+(w'+wi)) lo hi 14 (ttry a ss u) t':=by
 have fs:∀{W g W'},W.stop=false→(∃f W₁,Xs X (D+4) (rd false P) a W f W₁∧TrR X (D+2) (rd false P) ss u f W₁ g W')→Xs X (D+7) (rd false P) (ttry a ss u) W g W':=fun s h=>h.elim fun _ h=>h.elim fun _ h=>x_try (.same rfl) s (o_try (tr_x h.1 h.2))
 have ft:∀{W g W'},W.stop=false→(∃f W₁,Xs X (D+4) (rd true P) a' W f W₁∧TrR X (D+2) (rd true P) ts u' f W₁ g W')→Xs X (D+7) (rd true P) t' W g W':=fun s h=>h.elim fun _ h=>h.elim fun _ h=>x_try hb s (o_try (tr_x h.1 h.2))
 refine⟨.dir (fun m W T s=>?_) fun _ _ s v=>Bc.zs ⟨.same rfl⟩ s v,⟨.same rfl⟩,⟨hb⟩,.inl rfl⟩
 obtain⟨a1,b1,o⟩:=ha.r.undir (m:=m+(w'+wi)) (s.less (by lia))
 induction o with
 |go gx s1 mv=>
  have q:=gx.f4
  induction q with
  |no hk=>exact Gx.aft (mv.wide (Qa _) (Qa _) (Qa _)) (hf.go _ m _ _ gx (s1.less (by show _≤_+0;lia))) (fun _ _ q=>fs s.ss ⟨_,_,a1,.no rfl hk q⟩) fun _ _ q=>ft s.st ⟨_,_,b1,.no rfl hk q⟩
  |yes hx=>
   obtain⟨a2,b2,o⟩:=hh.go _ (m+wi) _ _ hx (s1.less (by show _≤_+0;lia))
   induction o with
   |go g2 s2 mv2=>exact Gx.aft ((mv.trans mv2).wide (Qa _) (Qa _) (by decide)) (hf.go _ m _ _ g2 s2) (fun _ _ q=>fs s.ss ⟨_,_,a1,.yes rfl a2 q⟩) fun _ _ q=>ft s.st ⟨_,_,b1,.yes rfl b2 q⟩
   |ff g1 g2 k _=>
    obtain⟨a3,g3,z3⟩:=hf.ss _ _ g1 k.ss k.vs
    obtain⟨b3,g4,z4⟩:=hf.st _ _ g2 k.st k.vt
    exact .mk (fs s.ss ⟨_,_,a1,.yes rfl a2 a3⟩) (ft s.st ⟨_,_,b1,.yes rfl b2 b3⟩) (.ff g3 g4 ((k.step z3 z4).cast mv.cau) trivial)
 |ff g1 g2 k _=>
  have lc:=s.lims.2.2.2
  obtain⟨a3,g3,z3⟩:=tr_s (D:=D+2) g1 k.ss k.vs (k.cs▸lc) (fun x W a b c d=>hh.ss false x W a b c d) hf.ss
  obtain⟨b3,g4,z4⟩:=tr_s (D:=D+2) g2 k.st k.vt (k.ct▸lc) hh.st hf.st
  exact .mk (fs s.ss ⟨_,_,a1,a3⟩) (ft s.st ⟨_,_,b1,b3⟩) (.ff g3 g4 (k.step z3 z4) trivial)
end
inductive Vl(lo:Int)(v:V)(T:RW)(x:Int):Prop
 |c {k}:v=tc k x→Vl lo v T x
 |s {k j}:v=tslot k j→j≤lo→lookA T.held j=some (.int x)→Vl lo v T x
inductive Vs1(lo:Int)(v:V)(T:RW)(x:Int):RW→Prop
 |mk:Vl lo v T x→Vs1 lo v T x T
inductive Vs2(lo:Int)(v:V)(j:Int)(T:RW)(p:Int × Int):RW→Prop
 |mk:Vl lo v T p.1→lookA T.held j=some (.int p.2)→Vs2 lo v j T p T
inductive MoX{β:Type}(X:Wd)(P:RP)(n:Nat)(Q:Nat→Prop)(D m:Nat)(lo hi:Int)(st:V)(W T:RW)(y:β)(R:RW→β→RW→Prop)(w:RW):Prop
 |go {t}:Xs X D (rd true P) st T N0 t→R t y t→Simu n Q m w t→Mv lo hi 0 W T w t→MoX X P n Q D m lo hi st W T y R w
 |ff {f t}:Xs X D (rd true P) st T f t→(f=N0∨f=N5)→FF n W.caught w t→MoX X P n Q D m lo hi st W T y R w
inductive MoY{β:Type}(X:Wd)(P:RP)(n:Nat)(Q:Nat→Prop)(D m:Nat)(g:β→Prop)(lo hi:Int)(st:V)(W T:RW)(K:RW→β→RW→Prop)(R:RW→β→RW→Prop):Prop
 |mk {y w}:K W y w→g y→MoX X P n Q D m lo hi st W T y R w→MoY X P n Q D m g lo hi st W T K R
section
variable {α β:Type}{X:Wd}{P:RP}{n:Nat}{Q Q' Q₂:Nat→Prop}{D D' m w w' wi wb l i:Nat}{lo hi lo' hi' k c c' ci j j₀ x y:Int}{b d d' t:Bool}{pre ss ts is is' rr rr' hs hs':List V}{W W₁ W₂ T T₁:RW}{e e' e₂ s s' t' f f' u u' a a' v q st ee L:V}{g:α→Prop}{g':β→Prop}{S:Bool→RW→α→RW→Prop}{R:RW→α→RW→Prop}{S₂:Bool→RW→β→RW→Prop}{R₂:RW→β→RW→Prop}{K:α→RW→β→RW→Prop}
theorem SX.more(h:SX true X P n Q D g w lo hi d pre S R)(hR:∀{T x T'},R T x T'→T'=T)(js:∀{W x W₁ y W₂},S false W x W₁→K x W₁ y W₂→S₂ false W y W₂)
  (step:∀m x W T,g x→R T x T→Simu n Q (m+w') W T→MoY X P n Q D m g' lo hi st W T (K x) R₂) (ks:∀x W,g x→W.stop=true→Vd n W→Zs n g' (K x) W) (hst:∀T,T.stop=true→Xs X D (rd true P) st T N5 T) (st2:∀b W,W.stop=true→Vd n W→Zs n g' (S₂ b) W):SX true X P n Q D g' (w+w') lo hi false (pre++[st]) S₂ R₂:=by
 refine⟨fun m W T s=>?_,st2⟩
 obtain⟨a,gx,o⟩:=h.run (m+w') W T (s.less (by lia))
 induction o with
 |go r1 r2 r3 r4 s1 mv=>
  have e:=hR r4
  subst e
  obtain⟨k1,gy,o⟩:=step m _ _ _ gx r4 (s1.less (by lia))
  induction o with
  |go h1 h2 s2 mv2=>exact .mk (js a k1) gy (.go (r1.app rfl (.go h1 .nil)) s2.st (r3.trans mv2.hld) h2 s2 ((mv.trans mv2).wide (Qa _) (Qa _) (by induction d<;>decide)))
  |ff h1 h2 kk=>
   rcases h2 with rfl|rfl
   ·exact .mk (js a k1) gy (.dead (r1.app rfl (.go h1 .nil)) (.inl rfl) (kk.cast mv.cau))
   ·exact .mk (js a k1) gy (.dead (r1.app rfl (.out h1 rfl)) (.inr rfl) (kk.cast mv.cau))
 |late r1 r2 r3 r4 gy k q=>have e:=hR r4;subst e;exact absurd (k.st.symm.trans r2) (by decide)
 |dead r1 r2 k=>
  obtain⟨k1,gy,z⟩:=ks _ _ gx k.ss k.vs
  rcases r2 with rfl|rfl
  ·exact .mk (js a k1) gy (.dead (r1.app rfl (.out (hst _ k.st) rfl)) (.inr rfl) (k.step z k.ft))
  ·exact .mk (js a k1) gy (.dead (r1.cut rfl) (.inr rfl) (k.step z k.ft))
theorem Vl.ev(h:Vl lo v T x):Ev X (D+1) P v T x T:=by
 induction h with
 |c e=>subst e;exact ev_const
 |s e _ h=>subst e;exact ev_slot h
theorem Vl.keep(h:Vl lo v T x)(k:Hk lo hi T T₁):Vl lo v T₁ x:=by
 induction h with
 |c e=>exact .c e
 |s e l h=>exact .s e l ((k _ (.inl l)).trans h)
theorem val_c(hc:rg c):SX true X P n Q (D+1) rg 0 lo hi false [] (fun b=>Ev X (D+1) (rd b P) (tc k c)) (Vs1 lo' (tc k c)):=.dir (fun _ _ _ s=>.mk ev_const ⟨.c rfl⟩ (.go hc s .refl)) fun _ _ s h=>.mk ev_const hc (.refl s h)
theorem val_s(h:XE X P n Q (D+2) w lo hi d pre e e')(h1:lo < j)(h2:j≤hi):SX true X P n Q (D+3) rg (w+1) lo hi false (pre++[thold j e']) (fun b=>Ev X (D+3) (rd b P) e) (Vs1 j (tslot k j)):=by
 refine⟨fun m W T s=>?_,fun b W s v=>(h.stop b W s v).rec fun a g z=>.mk (a.le (Qn _)) g z⟩
 obtain⟨a,gx,o⟩:=h.run (m+1) W T (s.less (by lia))
 have a:=a.le (Qn (D+2))
 induction o with
 |go r1 r2 r3 r4 s1 mv=>
  exact .mk a gx (.go ((r1.le (Nat.le_succ _)).app rfl (.go (x_hold (.same rfl) r2 r4 s1.lims.2.2.1) .nil)) s1.st (mv.hld.trans (keep_hd h1 h2)) ⟨.s rfl (Int.le_refl _) sto_self⟩ (Simu.hd (s1.less (by lia))) ⟨mv.cau,by have:=mv.hrd;have:=di_nn d;show _+0≤_;simp only[di]at *;lia,mv.hld.trans (keep_hd h1 h2)⟩)
 |late r1 r2 r3 r4 gy k q=>exact .mk a gx (.dead ((r1.le (Qn _)).app rfl (.go (x_hold (.same rfl) r2 r4 q) .nil)) (.inl rfl) ⟨k.ss,k.st,k.vs,k.vt.hd,k.cs,k.ct,k.ob⟩)
 |dead r1 r2 k=>
  have r1:=r1.le (Qn (D+2))
  rcases r2 with rfl|rfl
  ·exact .mk a gx (.dead (r1.app rfl (.out (x_stop (.same rfl) k.st) rfl)) (.inr rfl) k)
  ·exact .mk a gx (.dead (r1.cut rfl) (.inr rfl) k)
end
noncomputable abbrev hitI(i:Int)(t:Bool):Int:=@Bool.rec (fun _=>Int) (-1) i t
structure AkX(X:Wd)(P:RP)(n:Nat)(Q:Nat→Prop)(D w:Nat)(lo hi j i:Int)(e q:V):Prop where
 go:∀m W T,lookA T.held j=some (.int (-1))→Simu n Q (m+w) W T→MoY X P n Q D m (fun _:Bool=>True) lo hi q W T (fun W=>WhenR X D (rd false P) W e) fun _ t T'=>lookA T'.held j=some (.int (hitI i t))
 st:∀b W,W.stop=true→Vd n W→Zs n (fun _:Bool=>True) (fun W=>WhenR X D (rd b P) W e) W
 bq:∀W,W.stop=true→Xs X D (rd true P) q W N5 W
inductive Lk(X:Wd)(D:Nat)(P:RP)(L:V)(i:Int)(p:Int × Int)(W:RW):Int × Int→RW→Prop
 |skip:(p.2==-1)=false→Lk X D P L i p W p W
 |take {t W'}:p.2=-1→Tk X D P p.1 L W t W'→Lk X D P L i p W (p.1,hitI i t) W'
noncomputable def gp(p:Int × Int):Prop:=rg p.1∧(p.2=-1∨p.2=0∨p.2=1)
noncomputable abbrev tny(j:Int):V:=.tup [.int 14,.int 1,.str 25,tslot 7 j,tc 7 (-1),.int 0]
noncomputable abbrev tlab(j:Int)(v L q:V):V:=tif (.tup [.int 15,.int 1,tny j,.tup [.int 96,.int 1,v,L]]) q .none
section
variable {α β:Type}{X:Wd}{P:RP}{n:Nat}{Q Q' Q₂:Nat→Prop}{D D' m w w' wi wb l:Nat}{lo hi lo' hi' k c c' ci i j j₀ x y r:Int}{b d d' t:Bool}{pre ss ts is is' rr rr' hs hs':List V}{W W₁ W₂ T T₁:RW}{e e' e₂ s s' t' f f' u u' a a' v q st ee L:V}{S:Bool→RW→Int→RW→Prop}{R:RW→Int→RW→Prop}
theorem ak_none(h1:lo < j)(h2:j≤hi):AkX X P n Q (D+2) 1 lo hi j i .none (thold j (tc 7 i)):=
 ⟨fun _ _ _ _ s=>.mk .no trivial (.go (x_hold (.same rfl) s.st ev_const s.lims.2.2.1) sto_self (Simu.hd s) ⟨rfl,Int.le_of_eq (Int.add_zero _),keep_hd h1 h2⟩),fun _ _ s v=>.mk .no trivial (.refl s v),fun _ s=>x_stop (.same rfl) s⟩
theorem ak_when(E:Env P n)(hn:isNv e=false)(h:XE X P n Q (D+2) w j hi d pre e e')(hb:Bare q (tblk (pre++[tif e' (thold j (tc 7 i)) .none]) 0))(h1:lo < j)(h2:j≤hi):AkX X P n Q (D+8) (w+1) lo hi j i e q:=by
 refine⟨fun m W T hj s=>?_,fun b W s v=>?_,fun _ s=>x_stop hb s⟩
 ·have hx:∀{f T'},Row X (D+4) (rd true P) (pre++[tif e' (thold j (tc 7 i)) .none]) T f T'→Xs X (D+8) (rd true P) q T f T':=fun r=>(x_blk (D:=D+3) hb s.st ((begin_0 (D:=0) E).le (by lia)) (by
   induction pre with
   |nil=>exact .one ⟨.same rfl⟩ rfl
   |cons x p=>exact ok1_app (List.cons_ne_nil _ _)) r).le (by lia)
  obtain @⟨y,W',a,gx,o⟩:=h.run (m+1) W T (s.less (by lia))
  have a':WhenR X (D+8) (rd false P) W e (y % 2==1) W':=.yes hn (a.le (by lia))
  induction o with
  |go r1 r2 r3 r4 s1 mv=>
   have r4:=r4.le (Qn (D+2))
   have hk:=(mv.hld j (.inl (Qa _))).trans hj
   have mv:=mv.wide (lo':=lo) (hi':=hi) (e:=0) (Int.le_of_lt h1) (Qa _) (di_nn d)
   rcases odd y with q|q
   ·exact .mk a' trivial (.go (hx ((r1.le (by lia)).app rfl (.go (x_ifR (.same rfl) r2 r4 (.yes q (x_hold (.same rfl) s1.st ev_const s1.lims.2.2.1))) .nil))) (by rw[q];exact sto_self) (Simu.hd (s1.less (by lia))) ⟨mv.cau,mv.hrd,mv.hld.trans (keep_hd h1 h2)⟩)
   ·exact .mk a' trivial (.go (hx ((r1.le (by lia)).app rfl (.go (x_ifR (.same rfl) r2 r4 (.no q (.no rfl))) .nil))) (by rw[q];exact hk) (s1.less (by lia)) mv)
  |late r1 r2 r3 r4 gy k qq=>
   have r4:=r4.le (Qn (D+2))
   rcases odd (by assumption)with q|q
   ·exact .mk a' trivial (.ff (hx ((r1.le (by lia)).app rfl (.out (x_ifR (.same rfl) r2 r4 (.yes q (x_stop (.same rfl) k.st))) rfl))) (.inr rfl) k)
   ·exact .mk a' trivial (.ff (hx ((r1.le (by lia)).app rfl (.go (x_ifR (.same rfl) r2 r4 (.no q (.no rfl))) .nil))) (.inl rfl) k)
  |dead r1 r2 k=>
   have r1:=r1.le (by lia:D+2≤D+4)
   rcases r2 with rfl|rfl
   ·exact .mk a' trivial (.ff (hx (r1.app rfl (.out (x_stop (.same rfl) k.st) rfl))) (.inr rfl) k)
   ·exact .mk a' trivial (.ff (hx (r1.cut rfl)) (.inr rfl) k)
 ·obtain⟨a,g,z⟩:=h.stop b W s v
  exact .mk (.yes hn (a.le (by lia))) trivial z
theorem val_n(h:SX true X P n Q (D+3) rg w lo hi d pre (fun b=>Ev X (D+3) (rd b P) e) (Vs1 j₀ v))(h0:lo≤j₀)(h1:j₀ < j)(h2:j≤hi):SX true X P n Q (D+3) gp (w+1) lo hi false (pre++[thold j (tc 7 (-1))]) (fun b W p W'=>Ev X (D+3) (rd b P) e W p.1 W'∧p.2=-1) (Vs2 j₀ v j):=
 h.more (K:=fun x W p W'=>p=(x,-1)∧W'=W) (fun h=>by cases h;rfl) (fun h k=>by obtain⟨rfl,rfl⟩:=k;exact⟨h,rfl⟩)
  (fun m x W T hx hv s=>.mk ⟨rfl,rfl⟩ ⟨hx,.inl rfl⟩ (.go (x_hold (.same rfl) s.st ev_const s.lims.2.2.1) (by cases hv with|mk hv=>exact⟨hv.keep (keep_hd h1 h2),sto_self⟩) (Simu.hd s) ⟨rfl,Int.le_of_eq (Int.add_zero _),keep_hd (Int.lt_of_le_of_lt h0 h1) h2⟩))
  (fun x W hx s v=>.mk ⟨rfl,rfl⟩ ⟨hx,.inl rfl⟩ (.refl s v)) (fun _ s=>x_stop (.same rfl) s) fun b W s v=>(h.stop b W s v).rec fun a g z=>.mk (x:=(_,-1)) ⟨a,rfl⟩ ⟨g,.inl rfl⟩ z
theorem ev_ny(h:lookA W.held j=some (.int r)):Ev X (D+2) P (tny j) W (@Bool.rec (fun _=>Int) 0 1 (r==-1)) W:=ev_bin (ev_slot h) ev_const
theorem lab_skip(hb:Bare st (tlab j v L q))(s:T.stop=false)(h:lookA T.held j=some (.int r))(hr:(r==-1)=false):Xs X (D+4) P st T N0 T:=
 x_ifR hb s (ev_and0 (by have:=ev_ny (X:=X) (D:=D) (P:=P) h;rw[hr]at this;exact this) rfl) (.no rfl (.no rfl))
theorem lab_take(hb:Bare st (tlab j v L q))(s:T.stop=false)(h:lookA T.held j=some (.int (-1)))(hv:Vl lo v T x)(hk:Tk X (D+2) P x L T t T₁)(hq:@Bool.rec (fun _=>Prop) (f=N0∧T'=T₁) (Xs X (D+4) P q T₁ f T') t):Xs X (D+5) P st T f T':=by
 have a:Ev X (D+4) P (.tup [.int 15,.int 1,tny j,.tup [.int 96,.int 1,v,L]]) T (@Bool.rec (fun _=>Int) 0 1 t) T₁:=ev_and1 (ev_ny (D:=D+1) h) rfl (ev_takes hv.ev hk)
 induction t with
 |true=>exact x_ifR hb s a (.yes rfl hq)
 |false=>obtain⟨rfl,rfl⟩:=hq;exact x_ifR hb s a (.no rfl (.no rfl))
theorem gp_hit{p:Int × Int}(hx:gp p)(hi:i=0∨i=1):gp (p.1,hitI i t):=⟨hx.1,by
 induction t with
 |true=>exact .inr hi
 |false=>exact .inl rfl⟩
noncomputable abbrev LkS(X:Wd)(D:Nat)(P:RP)(L:V)(i:Int)(S:RW→Int × Int→RW→Prop)(W:RW)(p:Int × Int)(W':RW):Prop:=∃p₀ W₀,S W p₀ W₀∧Lk X D P L i p₀ W₀ p W'
theorem lab_more{S:Bool→RW→Int × Int→RW→Prop}(h:SX true X P n Q (D+5) gp w lo hi false pre S (Vs2 j₀ v j))(hj:j₀ < j)(h0:lo≤j₀)(hi':i=0∨i=1)(hb:Bare st (tlab j v L q))
  (step:∀m x W T,rg x→Vl j₀ v T x→lookA T.held j=some (.int (-1))→Simu n Q (m+w') W T→MoY X P n Q (D+5) m (fun _:Bool=>True) j₀ hi st W T (fun W t W'=>Tk X (D+5) (rd false P) x ee W t W') fun _ t T'=>lookA T'.held j=some (.int (hitI i t)))
  (hs:∀b x,rg x→∀W,W.stop=true→Vd n W→Zs n (fun _:Bool=>True) (fun W t W'=>Tk X (D+5) (rd b P) x ee W t W') W):SX true X P n Q (D+5) gp (w+w') lo hi false (pre++[st]) (fun b=>LkS X (D+5) (rd b P) ee i (S b)) (Vs2 j₀ v j):=by
 have ks:∀b p W,gp p→W.stop=true→Vd n W→Zs n gp (Lk X (D+5) (rd b P) ee i p) W:=fun b p W hx s v=>by
  cases hq:p.2==-1 with
  |false=>exact .mk (.skip hq) hx (.refl s v)
  |true=>exact(hs b p.1 hx.1 W s v).rec fun a _ z=>.mk (.take (Za hq) a) (gp_hit hx hi') z
 refine h.more (K:=Lk X (D+5) (rd false P) ee i) (fun h=>by cases h;rfl) (fun h k=>⟨_,_,h,k⟩) (fun m p W T hx hv s=>?_) (fun p W hx s v=>ks false p W hx s v) (fun _ s=>x_stop hb s) fun b W s v=>(h.stop b W s v).rec fun a gx z=>(ks b _ _ gx z.st z.vd).rec fun k1 g1 z1=>.mk ⟨_,_,a,k1⟩ g1 (z.trans z1)
 generalize eT:T=T₀ at hv
 cases hv with
 |mk hv hr=>
  subst eT
  cases hq:p.2==-1 with
  |false=>exact .mk (.skip hq) hx (.go ((lab_skip (D:=D) hb s.st hr hq).le (Qn _)) ⟨hv,hr⟩ (s.less (Qw _ _)) .refl)
  |true=>
   have e:=Za hq
   obtain⟨a,_,o⟩:=step m p.1 W T hx.1 hv (e▸hr) s
   induction o with
   |go b1 b2 s2 mv=>exact .mk (.take e a) (gp_hit hx hi') (.go b1 ⟨hv.keep mv.hld,b2⟩ s2 (mv.wide h0 (Qa _) (Qa _)))
   |ff b1 b2 k=>exact .mk (.take e a) (gp_hit hx hi') (.ff b1 b2 k)
theorem lab_null{S:Bool→RW→Int × Int→RW→Prop}(h:SX true X P n Q (D+5) gp w lo hi false pre S (Vs2 j₀ v j))(hj:j₀ < j)(h2:j≤hi)(h0:lo≤j₀)(hi':i=0∨i=1)(hb:Bare st (tlab j v (.tup [.int 4]) (thold j (tc 7 i)))):SX true X P n Q (D+5) gp (w+1) lo hi false (pre++[st]) (fun b=>LkS X (D+5) (rd b P) (.tup [.int 4]) i (S b)) (Vs2 j₀ v j):=
 lab_more h hj h0 hi' hb (fun m x W T hx hv hr s=>by
  refine .mk tk_null trivial ?_
  cases q:x==0 with
  |true=>exact .go (lab_take (t:=true) hb s.st hr hv (q▸tk_null) (x_hold (.same rfl) s.st ev_const s.lims.2.2.1)) sto_self (Simu.hd s) ⟨rfl,Int.le_of_eq (Int.add_zero _),keep_hd hj h2⟩
  |false=>exact .go (lab_take (t:=false) hb s.st hr hv (q▸tk_null) ⟨rfl,rfl⟩) hr (s.less (Qn _)) .refl) fun _ _ _ _ s v=>.mk tk_null trivial (.refl s v)
theorem lab_type{S:Bool→RW→Int × Int→RW→Prop}(h:SX true X P n Q (D+5) gp w lo hi false pre S (Vs2 j₀ v j))(hj:j₀ < j)(h2:j≤hi)(h0:lo≤j₀)(hi':i=0∨i=1)(hb:Bare st (tlab j v (ttype k l .none) q))(hl:l=0∨l < n∧Q l)(hq:AkX X P n Q (D+4) w' j₀ hi j i e q):SX true X P n Q (D+5) gp (w+w') lo hi false (pre++[st]) (fun b=>LkS X (D+5) (rd b P) (ttype k l e) i (S b)) (Vs2 j₀ v j):=
 lab_more h hj h0 hi' hb (fun m x W T hx hv hr s=>by
  rcases tk_or x k with z|⟨z1,z2⟩
  ·obtain⟨W',T',p1,p2,s1,mv⟩:=putL2 (X:=X) (D:=D) (P:=P) (lo:=j) (hi:=j) s hl hx
   have hk:∀k,lookA T'.held k=lookA T.held k:=fun k=>mv.hld k (by lia)
   obtain⟨a,_,o⟩:=hq.go m W' T' ((hk j).trans hr) s1
   have tk:Tk X (D+2) (rd true P) x (ttype k l .none) T true T':=tk_yes z p2 .no
   have a':=tk_yes (X:=X) (D:=D+4) z (by induction p1 with|no h=>exact .no h|yes h r=>exact .yes h (r.le (by lia))) a
   induction o with
   |go b1 b2 s2 mv2=>exact .mk a' trivial (.go (lab_take (t:=true) hb s.st hr hv tk b1) b2 s2 ⟨mv2.cau.trans mv.cau,by have:=mv.hrd;have:=mv2.hrd;lia,fun k h=>(mv2.hld k h).trans (hk k)⟩)
   |ff b1 b2 k=>exact .mk a' trivial (.ff (lab_take (t:=true) hb s.st hr hv tk b1) b2 (k.cast mv.cau))
  ·exact .mk (tk_no z1 z2) trivial (.go (lab_take (t:=false) hb s.st hr hv (tk_no z1 z2) ⟨rfl,rfl⟩) hr (s.less (Qw _ _)) .refl)) fun b x hx W s v=>by
  rcases tk_or x k with z|⟨z1,z2⟩
  ·exact(hq.st b W s v).rec fun a g zz=>.mk (tk_yes z (putLS s) a) trivial zz
  ·exact .mk (tk_no z1 z2) trivial (.refl s v)
end
noncomputable abbrev tdef:V:=.tup [.int 2]
inductive Cfg(r1 r2:List V):List V→List V→List V→Prop
 |a:Cfg r1 r2 [tdef] [] r1
 |b:Cfg r1 r2 [] [tdef] r2
 |n:Cfg r1 r2 [] [] []
inductive PkR(X:Wd)(D:Nat)(P:RP)(x:Int)(L1 L2:V)(r1 r2 R:List V)(W:RW)(g:V)(W':RW):Prop
 |a {w₁}:Tk X (D+1) P x L1 W true w₁→ReR X D P r1 w₁ g W'→PkR X D P x L1 L2 r1 r2 R W g W'
 |b {w₁ w₂}:Tk X (D+1) P x L1 W false w₁→Tk X (D+1) P x L2 w₁ true w₂→ReR X D P r2 w₂ g W'→PkR X D P x L1 L2 r1 r2 R W g W'
 |n {w₁ w₂}:Tk X (D+1) P x L1 W false w₁→Tk X (D+1) P x L2 w₁ false w₂→ReR X D P R w₂ g W'→PkR X D P x L1 L2 r1 r2 R W g W'
inductive Pn(X:Wd)(D:Nat)(P:RP)(r1 r2 R:List V)(c:Int)(W:RW)(g:V)(W':RW):Prop
 |a:c=0→ReR X D P r1 W g W'→Pn X D P r1 r2 R c W g W'
 |b:c=1→ReR X D P r2 W g W'→Pn X D P r1 r2 R c W g W'
 |n:c=-1→ReR X D P R W g W'→Pn X D P r1 r2 R c W g W'
theorem iz{a b:Int}{Z:Prop}(h:(a==b)=false)(q:a=b):Z:=absurd (beq_iff_eq.mpr q) (by rw[h];decide)
section
variable {α β:Type}{X:Wd}{P:RP}{n:Nat}{Q Q' Q₂:Nat→Prop}{D D' m w w' wi wb l:Nat}{lo hi lo' hi' k c c' ci i j j₀ x y r:Int}{b d d' t:Bool}{pre ss ts is is' r1 r2 R r1' r2' R' d1 d2:List V}{W W₀ W₁ W₂ T T₁:RW}{e e' e₂ s s' t' f f' u u' a a' v q st ee L L1 L2 g:V}{p:Int × Int}
theorem pk_lp(cf:Cfg r1 r2 d1 d2 R)(n1:Nd L1)(n2:Nd L2)(h:PkR X D P x L1 L2 r1 r2 R W g W₁):Lp X (D+1) P x [tsec L1 d1 r1,tsec L2 d2 r2] (.tup []) W g W₁:=by
 obtain⟨c1⟩:=n1
 obtain⟨c2⟩:=n2
 induction h with
 |a h1 h2=>obtain⟨h2,h3⟩:=h2;exact .hit c1 h1 (row_ok h2) h3
 |b h1 h2 h3=>
  obtain⟨h3,h4⟩:=h3
  induction cf with
  |a=>exact .missd c1 h1 (.hit c2 h2 (row_ok h3) h4)
  |b=>exact .miss c1 h1 (.hit c2 h2 (row_ok h3) h4)
  |n=>exact .miss c1 h1 (.hit c2 h2 (row_ok h3) h4)
 |n h1 h2 h3=>
  obtain⟨h3,h4⟩:=h3
  induction cf with
  |a=>exact .missd c1 h1 (.miss c2 h2 (.nil (row_ok h3) h4))
  |b=>exact .miss c1 h1 (.missd c2 h2 (.nil (row_ok h3) h4))
  |n=>exact .miss c1 h1 (.miss c2 h2 (.nil (row_ok h3) h4))
noncomputable abbrev tlc(i:Int):V:=.tup [.int 1,.int i]
theorem pn_lp(h:Pn X D P r1 r2 R c W g W₁):PkR X D P c (tlc 0) (tlc 1) r1 r2 R W g W₁:=by
 induction h with
 |a e h=>subst e;exact .a tk_const h
 |b e h=>subst e;exact .b tk_const tk_const h
 |n e h=>subst e;exact .n tk_const tk_const h
noncomputable abbrev Ch2(X:Wd)(D:Nat)(P:RP)(e L1 L2:V):RW→Int × Int→RW→Prop:=LkS X D P L2 1 (LkS X D P L1 0 fun W p W'=>Ev X D P e W p.1 W'∧p.2=-1)
theorem ch_pk(h:Ch2 X (D+1) P e L1 L2 W p W₁)(h2:Pn X D P r1 r2 R p.2 W₁ g W₂):∃x W₀,Ev X (D+1) P e W x W₀∧PkR X D P x L1 L2 r1 r2 R W₀ g W₂:=by
 obtain⟨p1,w1,⟨p0,w0,⟨h0,e0⟩,k1⟩,k2⟩:=h
 refine⟨_,_,h0,?_⟩
 induction k1 with
 |skip hk=>rw[e0]at hk;exact nomatch hk
 | @take t _ _ k1=>
  induction t with
  |true=>
   induction k2 with
   |skip hk=>
    induction h2 with
    |a _ h=>exact .a k1 h
    |b q _=>exact iz rfl q
    |n q _=>exact iz rfl q
   |take q _=>exact iz rfl q
  |false=>
   induction k2 with
   |skip hk=>exact nomatch hk
   | @take t _ _ k2=>
    induction t with
    |true=>
     induction h2 with
     |a q _=>exact iz rfl q
     |b _ h=>exact .b k1 k2 h
     |n q _=>exact iz rfl q
    |false=>
     induction h2 with
     |a q _=>exact iz rfl q
     |b q _=>exact iz rfl q
     |n _ h=>exact .n k1 k2 h
theorem pn_s(hx:gp p)(h1:Zs n Fv (Row X D P r1) W)(h2:Zs n Fv (Row X D P r2) W)(h3:Zs n Fv (Row X D P R) W):Zs n Fv (Pn X D P r1 r2 R p.2) W:=by
 rcases hx.2 with q|q|q
 ·exact(re_zs h3).rec fun a g z=>.mk (.n q a) g z
 ·exact(re_zs h1).rec fun a g z=>.mk (.a q a) g z
 ·exact(re_zs h2).rec fun a g z=>.mk (.b q a) g z
theorem xs_pick(E:Env P n)(h:SX true X P n Q (D+1) gp w lo hi d pre (fun b=>Ch2 X (D+1) (rd b P) e L1 L2) (Vs2 j₀ v j))(n1:Nd L1)(n2:Nd L2)(h1:XR X P n Q D w' lo hi r1 r1')(h2:XR X P n Q D w' lo hi r2 r2')(h3:XR X P n Q D w' lo hi R R')(cf:Cfg r1 r2 d1 d2 R)(cf':Cfg r1' r2' d1 d2 R')(hb:Bare s (tsw (tslot 7 j) [tsec (tlc 0) d1 r1',tsec (tlc 1) d2 r2'] 0))(hw:Wq pre s u):XS X P n Q (D+8) (w+w') lo hi 9 (tsw e [tsec L1 d1 r1,tsec L2 d2 r2] 0) u:=by
 refine((h.free.bindS (g':=Fv) (d':=false) (K:=fun b p=>Pn X D (rd b P) r1 r2 R p.2) (L:=fun p=>Pn X D (rd true P) r1' r2' R' p.2) (S₂:=fun b=>Xs X (D+4) (rd b P) (tsw e [tsec L1 d1 r1,tsec L2 d2 r2] 0)) (R₂:=Xs X (D+4) (rd true P) s) (fun s h k=>?_) (fun s h k=>?_) (fun m p W T hx s=>?_) (fun p W hx s v=>pn_s hx (h1.r.stop false W s v) (h2.r.stop false W s v) (h3.r.stop false W s v)) (fun p W hx s v=>pn_s hx (h1.stp W s v) (h2.stp W s v) (h3.stp W s v)) fun _ _ s v=>Bc.zs ⟨.same rfl⟩ s v).map (D':=D+4) (by lia) (fun h=>h) fun h=>h).close (D:=D+2) E ⟨⟨hb⟩,.inl rfl⟩ hw (fun h=>h.le (by lia)) ⟨.same rfl⟩ |> fun h=>h
 ·obtain⟨x,W₀,a,b⟩:=ch_pk h k
  exact x_switch (.same rfl) s (o_switch (pick_0 a (pk_lp cf n1 n2 b)))
 ·induction h with
  |mk _ h=>exact x_switch hb s (o_switch (pick_0 (ev_slot h) (pk_lp cf' ⟨rfl⟩ ⟨rfl⟩ (pn_lp k))))
 ·rcases hx.2 with q|q|q
  ·obtain⟨a,b,o⟩:=(sx_re h3).undir s;exact .mk (.n q a) (.n q b) o
  ·obtain⟨a,b,o⟩:=(sx_re h1).undir s;exact .mk (.a q a) (.a q b) o
  ·obtain⟨a,b,o⟩:=(sx_re h2).undir s;exact .mk (.b q a) (.b q b) o
end
noncomputable abbrev Kd(X:Wd)(D:Nat)(e:V)(ks:List V):Prop:=∀σ,Runs X D 282 [e] σ (.tup ks,σ)
noncomputable abbrev Ha(X:Wd)(D:Nat)(e:V)(b:Bool):Prop:=∀σ,Runs X D 358 [e] σ (.bool b,σ)
inductive An(X:Wd)(D:Nat):List V→Bool→Prop
 |nil:An X D [] false
 |no {a l b}:Ha X D a false→An X D l b→An X D (a::l) b
 |yes {a l}:Ha X D a true→An X D (a::l) true
noncomputable abbrev haB:Ss:=.cons (.iff (.call 358 (.cons (.var 1) .nil)) (.cons (.ret (.bool true)) .nil) .nil) .nil
inductive Tl1:Rho→Prop
 |a:Tl1 []
 |b (y):Tl1 [(1,.v y)]
section
variable {X:Wd}{D D' l f:Nat}{σ:Sg}{e k m x:V}{as ks:List V}{c z:Int}{b:Bool}{tl:Rho}
theorem kd_1:Kd X (D+2) (.tup (.int 1::as)) []:=fun σ=>.by 0 rfl fun q=>q _ _ (.by 0 rfl fun q=>q)
theorem kd_2:Kd X (D+2) (.tup (.int 2::as)) []:=fun σ=>.by 0 rfl fun q=>q _ _ (.by 0 rfl fun q=>q)
theorem kd_24:Kd X (D+2) (.tup (.int 24::as)) []:=fun σ=>.by 0 rfl fun q=>q _ _ (.by 0 rfl fun q=>q)
theorem kd_32:Kd X (D+2) (.tup (.int 32::as)) []:=fun σ=>.by 0 rfl fun q=>q _ _ (.by 0 rfl fun q=>q)
theorem kd_call(h:as.length≤LIM):Kd X (D+2) (tcall c z as) as:=fun σ=>.by 0 rfl fun q=>q _ _ (.by 2048 rfl fun q=>q (QR.mpr (Qf (QT (Nat.zero_add _)) h)))
theorem kd_asg(h:isNv e=false):Kd X (D+2) (tasg l e) [tloc 7 l,e]:=fun σ=>.by 0 rfl fun q=>q _ _ (.by 4096 rfl fun q=>q true (congrArg not h))
theorem ha_await:Ha X (D+1) (.tup (.int 30::as)) true:=fun σ=>.by 0 rfl fun q=>q
theorem ha_go{a:V}(h:Tl1 tl)(hh:Ha X D a b):OkB X D haB ((0,.v e)::(1,.v a)::[]) σ (@Bool.rec (fun _=>Fl) .next (.ret (.bool true)) b,[(0,.v e),(1,.v a)],σ):=by
 induction b with
 |true=>exact .by 0 fun q=>q _ _ (hh σ)
 |false=>exact .by 0 fun q=>q _ _ (hh σ)
theorem ha_all(h:An X D ks b):∀{tl:Rho},Tl1 tl→∃fl ρ',Rounds X D (B1 1) haB ks ((0,.v e)::tl) σ (fl,ρ',σ)∧((fl=.next∧b=false)∨(fl=.ret (.bool true)∧b=true)):=by
 induction h with
 |nil=>exact fun _=>⟨_,_,.nil,.inl ⟨rfl,rfl⟩⟩
 |no h _ ih=>
  intro tl ht
  obtain⟨fl,ρ',r,q⟩:=ih (.b _)
  exact⟨fl,ρ',.go (by induction ht<;>rfl) (ha_go ht h) .next r,q⟩
 |yes h=>exact fun{tl} ht=>⟨_,_,.out (by induction ht<;>rfl) (ha_go ht h) (.ret _),.inr ⟨rfl,rfl⟩⟩
theorem ha_kids(hc:(c==30)=false)(hk:Kd X D (.tup (.int c::as)) ks)(h:An X D ks b):Ha X (D+1) (.tup (.int c::as)) b:=fun σ=>by
 obtain⟨fl,ρ',r,⟨rfl,rfl⟩|⟨rfl,rfl⟩⟩:=ha_all (e:=.tup (.int c::as)) (σ:=σ) h .a
 ·exact .by 20 rfl fun q=>q false hc _ _ (hk σ) _ _ _ r
 ·exact .by 20 rfl fun q=>q false hc _ _ (hk σ) _ _ _ r
theorem Ha.le(h:Ha X D e b)(l:D≤D'):Ha X D' e b:=fun σ=>(h σ).le l
theorem ha_1:Ha X (D+3) (.tup (.int 1::as)) false:=ha_kids rfl kd_1 .nil
theorem ha_2:Ha X (D+3) (.tup (.int 2::as)) false:=ha_kids rfl kd_2 .nil
theorem ha_24:Ha X (D+3) (.tup (.int 24::as)) false:=ha_kids rfl kd_24 .nil
theorem ha_32:Ha X (D+3) (.tup (.int 32::as)) false:=ha_kids rfl kd_32 .nil
theorem kd_91:Kd X (D+2) (.tup (.int 91::as)) []:=fun σ=>.by 0 rfl fun q=>q _ _ (.by 0 rfl fun q=>q)
theorem ha_91:Ha X (D+3) (.tup (.int 91::as)) false:=ha_kids rfl kd_91 .nil
theorem ha_call(hl:as.length≤LIM)(h:An X (D+2) as b):Ha X (D+3) (tcall c z as) b:=ha_kids rfl (kd_call hl) h
theorem ha_asg(hn:isNv e=false)(h:Ha X (D+3) e b):Ha X (D+4) (tasg l e) b:=by
 induction b with
 |true=>exact ha_kids rfl (kd_asg hn) (.no ha_2 (.yes h))
 |false=>exact ha_kids rfl (kd_asg hn) (.no ha_2 (.no h .nil))
end
structure Spl(X:Wd)(sp:V)(S:Int→Sg):Prop where
 me:∀n,MeR (S n) sp 34 344
 sl:∀n,Runs X 1 344 [sp] (S n) (.int (n+1),S (n+1))
noncomputable abbrev Sp(X:Wd)(D:Nat)(sp:V)(S:Int→Sg)(e:V)(lo:Int)(pre:List V)(e':V)(hi:Int):Prop:=∀ys,ys.length+pre.length < LIM→RunsL X D 421 [sp,e] ys (S lo) (e',some (ys++pre),S hi)
section
variable {X:Wd}{D D' l f:Nat}{σ:Sg}{e e' k m x sp a b c a' p':V}{as ks pre ys zs:List V}{z n lo hi i j kk:Int}{S:Int→Sg}
theorem RunsL.le{d d' f:Nat}{vs ys:List V}{σ:Sg}{r:V × Option (List V) × Sg}(h:RunsL X d f vs ys σ r)(l:d≤d'):RunsL X d' f vs ys σ r:=⟨h.fn,fun A s g us a hr=>h.run A s g us a ⟨hr.hd,by have:=hr.dep;lia,by have:=hr.uni;lia⟩⟩
theorem Sp.le(h:Sp X D sp S e lo pre e' hi)(l:D≤D'):Sp X D' sp S e lo pre e' hi:=fun ys q=>(h ys q).le l
theorem sp_no(h:Ha X D (.tup (.int z::as)) false):Sp X (D+1) sp S (.tup (.int z::as)) n [] (.tup (.int z::as)) n:=fun ys _=>by
 rw[QA]
 exact .by 0 rfl fun q=>q _ _ (h _)
theorem sp_await(C:Spl X sp S):Sp X (D+6) sp S (.tup [.int 30,.int kk,tloc 7 l]) n [taw (n+1) (tloc 7 l)] (tslot kk (n+1)) (n+1):=fun ys hl=>by
 have h1:=sp_no (X:=X) (sp:=sp) (S:=S) (n:=n) (ha_2 (D:=D) (as:=[.int 7,.int (.ofNat l)])) ys (QB (QK (QC 1) _) hl)
 rw[QA]at h1
 exact .by 0 rfl fun q=>q _ _ (ha_await _) _ _ _ (.by 2 rfl fun q=>q _ _ _ h1 (C.me _) _ _ ((C.sl _).le (by lia)) (Qs.mpr (QB (Qw _ _) hl)))
theorem sp_asg(hn:isNv e=false)(h:Ha X (D+3) e true)(hs:Sp X (D+4) sp S e n pre e' j):Sp X (D+5) sp S (tasg l e) n pre (tasg l e') j:=fun ys hl=>
 .by 0 rfl fun q=>q _ _ (ha_asg hn h _) _ _ _ (.by 0 rfl fun q=>q) _ _ _ (hs ys hl)
theorem held_ok(C:Spl X sp S)(hl:ys.length+1 < LIM):RunsL X (D+6) 470 [sp,tcall kk z as,tloc 7 l,.int 0] ys (S n) (tslot 7 (n+1),some (ys++[thold (n+1) (tloc 7 l)]),S (n+1)):=by
 have h1:=sp_no (X:=X) (sp:=sp) (S:=S) (n:=n+1) (ha_2 (D:=D) (as:=[.int 7,.int (.ofNat l)])) ys (QB (QK (QC 1) _) hl)
 rw[QA]at h1
 have h2:RunsL X (D+5) 393 [sp,tloc 7 l] ys (S n) (tslot 7 (n+1),some (ys++[thold (n+1) (tloc 7 l)]),S (n+1)):=.by 256 rfl fun q=>q (C.me _) _ _ ((C.sl _).le (by lia)) _ _ _ h1 (Qs.mpr (Nat.lt_of_succ_lt hl))
 exact .by 0 rfl fun q=>q _ _ _ h2
theorem lim3:[a,b,c].length≤LIM:=(by decide:3≤16777216)
theorem lim2:[a,b].length≤LIM:=(by decide:2≤16777216)
theorem kids_2{b':V}:Runs X (D+1) 289 [tcall kk z [a,b],.flist [a',b']] σ (tcall kk z [a',b'],σ):=.by 0 rfl fun q=>q
theorem kids_3{b' c':V}:Runs X (D+1) 289 [tcall kk z [a,b,c],.flist [a',b',c']] σ (tcall kk z [a',b',c'],σ):=.by 0 rfl fun q=>q
theorem sp_tff(ha:Ha X (D+3) a true)(hb:Ha X (D+3) b false)(hc:Ha X (D+3) c false)(hs:Sp X (D+3) sp S a n pre a' j):Sp X (D+5) sp S (tcall kk z [a,b,c]) n pre (tcall kk z [a',b,c]) j:=fun ys hl=>
 .by 0 rfl fun q=>q _ _ (ha_call (D:=D+1) (lim3 (a:=a) (b:=b) (c:=c)) (.yes ha) _) _ _ _ (.by 0 rfl fun q=>q _ _ (kd_call (D:=D+1) (lim3 (a:=a) (b:=b) (c:=c)) _) _ _ (ha _) _ _ (hb _) _ _ (hc _) _ _ _ (hs ys hl) _ _ kids_3)
theorem len1(h:ys.length+(x::pre).length < LIM):ys.length+1 < LIM∧(ys++[x]).length+pre.length < LIM:=by
 rw[List.length_cons]at h
 rw[Qb,Qu];lia
theorem app1:(ys++[x])++pre=ys++x::pre:=QN ys [x] pre
theorem sp_ftf(C:Spl X sp S)(hb:Ha X (D+3) b true)(hc:Ha X (D+3) c false)(hs:Sp X (D+6) sp S b (n+1) pre a' j):Sp X (D+8) sp S (tcall kk z [tloc 7 l,b,c]) n (thold (n+1) (tloc 7 l)::pre) (tcall kk z [tslot 7 (n+1),a',c]) j:=fun ys hl=>by
 have h3:=hs _ (len1 hl).2
 rw[app1]at h3
 exact .by 0 rfl fun q=>q _ _ ((ha_call (D:=D+1) (lim3 (a:=tloc 7 l) (b:=b) (c:=c)) (.no ha_2 (.yes hb))).le (by lia) _) _ _ _ (.by 0 rfl fun q=>q _ _ ((kd_call (D:=D+1) (lim3 (a:=tloc 7 l) (b:=b) (c:=c)) _).le (by lia)) _ _ (ha_2 _) _ _ (hb.le (by lia) _) _ _ (hc.le (by lia) _) _ _ _ (held_ok (D:=D) C (len1 hl).1) _ _ _ h3 _ _ kids_3)
theorem sp_ft(C:Spl X sp S)(hb:Ha X (D+3) b true)(hs:Sp X (D+6) sp S b (n+1) pre a' j):Sp X (D+8) sp S (tcall kk z [tloc 7 l,b]) n (thold (n+1) (tloc 7 l)::pre) (tcall kk z [tslot 7 (n+1),a']) j:=fun ys hl=>by
 have h3:=hs _ (len1 hl).2
 rw[app1]at h3
 exact .by 0 rfl fun q=>q _ _ ((ha_call (D:=D+1) (lim2 (a:=tloc 7 l) (b:=b)) (.no ha_2 (.yes hb))).le (by lia) _) _ _ _ (.by 0 rfl fun q=>q _ _ ((kd_call (D:=D+1) (lim2 (a:=tloc 7 l) (b:=b)) _).le (by lia)) _ _ (ha_2 _) _ _ (hb.le (by lia) _) _ _ _ (held_ok (D:=D) C (len1 hl).1) _ _ _ h3 _ _ kids_2)
end
noncomputable abbrev Km(X:Wd)(D:Nat)(u:V)(ks:List V):Prop:=∀σ,Runs X D 315 [u] σ (.tup ks,σ)
noncomputable abbrev Mk(X:Wd)(D:Nat)(u t:V):Prop:=∀σ,Runs X D 372 [u] σ (t,σ)
inductive Tp:V→Prop
 |mk (c l):Tp (.tup (.int c::l))
inductive Tps:List V→Prop
 |nil:Tps []
 |cons {k ks}:Tp k→Tps ks→Tps (k::ks)
inductive MkX(X:Wd)(D:Nat)(u:V):Prop
 |mk {t}:Mk X D u t→Bare t u→MkX X D u
noncomputable abbrev mkB:Ss:=.cons (.iff (.cmp .eq (.sub (.var 1) (.int 0)) (.int 93)) (.cons (.ret (.tup (.cons (.int 93) (.cons (.var 0) .nil)))) .nil) .nil) .nil
inductive WpX(X:Wd)(D:Nat)(pre:List V)(u:V):Prop
 |mk {s t}:(∀σ,Runs X D 484 [.flist pre,u] σ (t,σ))→Bare s u→Wq pre s t→Tp t→WpX X D pre u
section
variable {X:Wd}{D D' l f:Nat}{σ:Sg}{e e' m x sp a b u t s s':V}{as ks pre ys zs ss ts is:List V}{z n lo hi i j kk c k:Int}{S:Int→Sg}{tl:Rho}
theorem mk_turn(ht:Tl1 tl):OkB X D mkB [(0,.v u),(1,.v (.tup (.int c::as)))] σ (@Bool.rec (fun _=>Fl) .next (.ret (.tup [.int 93,u])) (c==93),[(0,.v u),(1,.v (.tup (.int c::as)))],σ):=by
 cases h:c==93 with
 |true=>exact .by 4 fun q=>q true h
 |false=>exact .by 4 fun q=>q false h
theorem mk_all(h:Tps ks):(∀σ,∀{tl:Rho},Tl1 tl→∃ρ',Rounds X D (B1 1) mkB ks ((0,.v u)::tl) σ (.ret (.tup [.int 93,u]),ρ',σ))∨∀σ,∀{tl:Rho},Tl1 tl→∃tl',Rounds X D (B1 1) mkB ks ((0,.v u)::tl) σ (.next,(0,.v u)::tl',σ):=by
 induction h with
 |nil=>exact .inr fun σ tl _=>⟨_,.nil⟩
 |cons h _ ih=>
  obtain⟨c,l⟩:=h
  have tn:=fun σ=>mk_turn (X:=X) (D:=D) (u:=u) (c:=c) (as:=l) (σ:=σ) .a
  cases hc:c==93 with
  |true=>
   rw[hc]at tn
   exact .inl fun σ tl ht=>⟨_,.out (by induction ht<;>rfl) (tn σ) (.ret _)⟩
  |false=>
   rw[hc]at tn
   rcases ih with ih|ih
   ·exact .inl fun σ tl ht=>(ih σ (.b _)).elim fun a h=>⟨a,.go (by cases ht<;>rfl) (tn σ) .next h⟩
   ·exact .inr fun σ tl ht=>(ih σ (.b _)).elim fun a h=>⟨a,.go (by cases ht<;>rfl) (tn σ) .next h⟩
theorem mark_ok(h:Km X D (.tup (.int c::as)) ks)(hk:Tps ks)(hc:(c==93)=false):MkX X (D+1) (.tup (.int c::as)):=by
 rcases mk_all (X:=X) (D:=D) (u:=.tup (.int c::as)) hk with r|r
 ·exact .mk (fun σ=>(r σ .a).elim fun _ r=>.by 2 rfl fun q=>q _ _ (h σ) _ _ _ r) .cut
 ·exact .mk (fun σ=>(r σ .a).elim fun _ r=>.by 2 rfl fun q=>q _ _ (h σ) _ _ _ r) (.same hc)
theorem Tps.app(h:Tps ss)(h2:Tps ts):Tps (ss++ts):=by
 induction h with
 |nil=>exact h2
 |cons h _ ih=>exact .cons h ih
theorem mk_blk(h:Tps ss)(hl:ss.length≤LIM):MkX X (D+3) (tblk ss k):=mark_ok (D:=D+2) (fun σ=>.by 0 rfl fun q=>q _ _ (.by 64 rfl fun q=>q (QR.mpr (Qf (QT (Nat.zero_add _)) hl)))) h rfl
theorem mk_if0(h:Tp a):MkX X (D+3) (tif e a .none):=by
 obtain⟨c,l⟩:=h
 exact mark_ok (D:=D+2) (fun σ=>.by 0 rfl fun q=>q _ _ (.by 0 rfl fun q=>q)) (.cons ⟨c,l⟩ .nil) rfl
theorem mk_if1(h:Tp a)(h2:Tp b):MkX X (D+3) (tif e a b):=by
 obtain⟨c,l⟩:=h
 obtain⟨c',l'⟩:=h2
 exact mark_ok (D:=D+2) (fun σ=>.by 0 rfl fun q=>q _ _ (.by 0 rfl fun q=>q)) (.cons ⟨c,l⟩ (.cons ⟨c',l'⟩ .nil)) rfl
theorem mk_while(h:Tp a):MkX X (D+3) (.tup [.int 5,e,a]):=by
 obtain⟨c,l⟩:=h
 exact mark_ok (D:=D+2) (fun σ=>.by 0 rfl fun q=>q _ _ (.by 0 rfl fun q=>q)) (.cons ⟨c,l⟩ .nil) rfl
theorem mk_do(h:Tp a):MkX X (D+3) (tdo a e):=by
 obtain⟨c,l⟩:=h
 exact mark_ok (D:=D+2) (fun σ=>.by 0 rfl fun q=>q _ _ (.by 0 rfl fun q=>q)) (.cons ⟨c,l⟩ .nil) rfl
theorem mk_for(h:Tp a)(h2:Tp s)(h3:Tp s'):MkX X (D+3) (tfor [s] e [s'] a k):=by
 obtain⟨c,l⟩:=h
 exact mark_ok (D:=D+2) (fun σ=>.by 0 rfl fun q=>q _ _ (.by 0 rfl fun q=>q)) (.cons h2 (.cons ⟨c,l⟩ (.cons h3 .nil))) rfl
theorem mk_each(h:Tp a):MkX X (D+3) (eaS l e a m x k):=by
 obtain⟨c,l⟩:=h
 exact mark_ok (D:=D+2) (fun σ=>.by 0 rfl fun q=>q _ _ (.by 0 rfl fun q=>q)) (.cons ⟨c,l⟩ .nil) rfl
theorem mk_use(h:Tp a):MkX X (D+3) (tuse l e x a):=by
 obtain⟨c,l⟩:=h
 exact mark_ok (D:=D+2) (fun σ=>.by 0 rfl fun q=>q _ _ (.by 0 rfl fun q=>q)) (.cons ⟨c,l⟩ .nil) rfl
theorem mk_sw(h:Tps ss)(h2:Tps ts)(hl:ss.length+ts.length≤LIM):MkX X (D+3) (tsw e [.tup [a,.tup ss],.tup [b,.tup ts]] l):=mark_ok (D:=D+2) (fun σ=>.by 0 rfl fun q=>q _ _ (.by 80 rfl fun q=>q (QR.mpr (by rw[List.length_nil];lia)) (QR.mpr hl))) (h.app h2) rfl
theorem mk_1:MkX X (D+3) (t1 1 e):=mark_ok (D:=D+2) (fun σ=>.by 0 rfl fun q=>q _ _ (.by 0 rfl fun q=>q)) .nil rfl
theorem mk_2:MkX X (D+3) (t2 2 i e):=mark_ok (D:=D+2) (fun σ=>.by 0 rfl fun q=>q _ _ (.by 0 rfl fun q=>q)) .nil rfl
theorem mk_12:MkX X (D+3) (t1 12 e):=mark_ok (D:=D+2) (fun σ=>.by 0 rfl fun q=>q _ _ (.by 0 rfl fun q=>q)) .nil rfl
theorem mk_13:MkX X (D+3) (t1 13 e):=mark_ok (D:=D+2) (fun σ=>.by 0 rfl fun q=>q _ _ (.by 0 rfl fun q=>q)) .nil rfl
theorem Bare.tp(h:Bare t (.tup (.int c::as))):Tp t:=by
 generalize e:V.tup (.int c::as)=u at h
 induction h with
 |same=>exact⟨_,_⟩
 |cut=>exact⟨_,_⟩
theorem rowof_ok(h:Tps ss)(hl:ss.length≤LIM):∃t,(∀σ,Runs X (D+4) 379 [.flist ss] σ (t,σ))∧Bare t (tblk ss 0):=
 (mk_blk (X:=X) (D:=D) (k:=0) h hl).rec fun h hb=>⟨_,fun σ=>.by 0 rfl fun q=>q _ _ (h σ),hb⟩
theorem wp_ok(hm:MkX X (D+3) (.tup (.int c::as)))(hp:Tps pre)(hl:pre.length≤100):WpX X (D+5) pre (.tup (.int c::as)):=by
 obtain @⟨s,hm,hb⟩:=hm
 induction pre with
 |nil=>exact .mk (fun σ=>.by 0 rfl fun q=>q _ _ ((hm σ).le (Qn _))) hb (.nil rfl rfl) hb.tp
 |cons x p=>
  have hl2:(x::p).length+1≤LIM:=Qf (Qv hl) (by decide)
  obtain⟨t,r,h2⟩:=rowof_ok (X:=X) (D:=D) (hp.app (.cons hb.tp .nil)) (by rw[Qb];exact hl2)
  exact .mk (fun σ=>.by 16 rfl fun q=>q _ _ ((hm σ).le (Qn _)) (QR.mpr hl2) _ _ (r σ)) hb (.blk (ok1_app (List.cons_ne_nil _ _)) h2) h2.tp
end
inductive Ct1(e:V)(lo:Int)(pre:List V)(c:Int)(l:List V)(hi:Int):Prop
 |nc {k l'}:(c==1)=false→(c==3)=false→l=.int k::l'→Ct1 e lo pre c l hi
 |c {k i}:rg i→pre=[]→lo=hi→e=tc k i→.tup (.int c::l)=e→Ct1 e lo pre c l hi
inductive GEy(X:Wd)(sp:V)(S:Int→Sg)(P:RP)(n:Nat)(Q:Nat→Prop)(D w:Nat)(d sl:Bool)(e:V)(lo:Int):Prop
 |mk {pre c l hi}:Tps pre→pre.length≤w→Sp X D sp S e lo pre (.tup (.int c::l)) hi→lo≤hi→XE X P n Q D w lo hi d pre e (.tup (.int c::l))→(sl=false→(c==91)=false)→Ha X D (.tup (.int c::l)) false→Ct1 e lo pre c l hi→GEy X sp S P n Q D w d sl e lo
structure GN(X:Wd)(P:RP)(n:Nat)(Q:Nat→Prop)(D w:Nat)(d:Bool)(e:V):Prop where
 ha:Ha X D e false
 xe:∀lo hi,XE X P n Q D w lo hi d [] e e
structure GA(X:Wd)(P:RP)(n:Nat)(Q:Nat→Prop)(D w:Nat)(d:Bool)(as:List V):Prop where
 an:An X D as false
 xa:∀lo hi,XA X P n Q D w lo hi d [] as as
inductive GE(X:Wd)(sp:V)(S:Int→Sg)(P:RP)(n:Nat)(Q:Nat→Prop)(D w:Nat)(d sl:Bool)(e:V):Prop
 |no {c l}:e=.tup (.int c::l)→(c==91)=false→(((c==1)=false∧(c==3)=false∧∃k l',l=.int k::l')∨∃k i,rg i∧e=tc k i)→GN X P n Q D w d e→GE X sp S P n Q D w d sl e
 |yes:isNv e=false→Ha X D e true→(∀lo,GEy X sp S P n Q D w d sl e lo)→GE X sp S P n Q D w d sl e
section
variable {X:Wd}{sp:V}{S:Int→Sg}{P:RP}{n:Nat}{Q:Nat→Prop}{D D' w w' l l' f:Nat}{d d' b' sl b:Bool}{e:V}{as:List V}{c z k lo hi:Int}{ls:List Nat}
theorem XE.le{pre:List V}{e':V}(h:XE X P n Q D w lo hi d pre e e')(l:D≤D'):XE X P n Q D' w lo hi d pre e e':=h.map l (fun h=>h.le l) fun h=>h.le l
theorem XA.le{pre as':List V}(h:XA X P n Q D w lo hi d pre as as')(l:D≤D'):XA X P n Q D' w lo hi d pre as as':=h.map l (fun h=>h.le l) fun h=>h.le l
theorem GN.le(h:GN X P n Q D w d e)(l:D≤D'):GN X P n Q D' w d e:=⟨h.ha.le l,fun lo hi=>XE.le (h.xe lo hi) l⟩
theorem GEy.le(h:GEy X sp S P n Q D w d sl e lo)(l:D≤D'):GEy X sp S P n Q D' w d sl e lo:=by
 obtain⟨a,b,c,h1,h2,h3,h4,h5⟩:=h
 exact⟨a,b,c.le l,h1,XE.le h2 l,h3,h4.le l,h5⟩
theorem GE.le(h:GE X sp S P n Q D w d sl e)(l:D≤D'):GE X sp S P n Q D' w d sl e:=by
 induction h with
 |no a b q h=>exact .no a b q (h.le l)
 |yes a h1 h2=>exact .yes a (h1.le l) fun lo=>(h2 lo).le l
theorem GE.nn(h:GE X sp S P n Q D w d sl e):isNv e=false:=by
 cases h with
 |no a b q h=>rw[a];rfl
 |yes a h1 h2=>exact a
theorem GE.y(h:GE X sp S P n Q D w d sl e)(lo:Int):GEy X sp S P n Q (D+1) w d sl e lo:=by
 induction h with
 |no a b q h=>subst a;exact .mk .nil (QC _) (sp_no h.ha) (Qa _) (XE.le (h.xe lo lo) (Qn _)) (fun _=>b) (h.ha.le (Qn _)) (q.elim (fun⟨q1,q2,k,l',q3⟩=>.nc q1 q2 q3) fun⟨k,i,q1,q2⟩=>.c q1 rfl rfl q2 rfl)
 |yes a h1 h2=>exact(h2 lo).le (Qn _)
theorem GE.calm(h:GE X sp S P n Q D w d sl e):GE X sp S P n Q D w false sl e:=by
 cases h with
 |no a b q h=>exact .no a b q ⟨h.ha,fun lo hi=>(h.xe lo hi).wide (Qd _) (Qa _) (Qa _) (QC _) (di_nn _)⟩
 |yes a h1 h2=>exact .yes a h1 fun lo=>(h2 lo).rec fun a b c h1 h2 h3 h4 h5=>.mk a b c h1 (h2.wide (Qd _) (Qa _) (Qa _) (QC _) (di_nn _)) h3 h4 h5
theorem gn_const(hc:rg c):GN X P n Q (D+3) 0 false (tc k c):=⟨ha_1,fun _ _=>ex_const hc⟩
theorem gn_loc(hl:l < n∧Q l):GN X P n Q (D+3) 0 false (tloc 7 l):=⟨ha_2,fun _ _=>ex_loc hl⟩
theorem gn_hole:GN X P n Q (D+3) 0 false (.tup [.int 32,.int k]):=⟨ha_32,fun _ _=>ex_hole⟩
theorem gn_lam(hg:P.gr[f]?=some (.tup (lidV ls)))(hq:∀l∈ls,l < n∧Q l)(h40:ls.length≤40):GN X P n Q (D+3) 41 false (tlam f):=⟨ha_24,fun _ _=>ex_lam hg hq h40⟩
theorem ga_nil:GA X P n Q D 0 false []:=⟨.nil,fun _ _=>as_nil⟩
theorem ga_cons(h:GN X P n Q D w d e)(h2:GA X P n Q D w' d' as):GA X P n Q D (w+w') (d||d') (e::as):=⟨.no h.ha h2.an,fun lo hi=>as_cons (h.xe lo hi) (h2.xa lo hi)⟩
theorem gn_call(C:Scp P n Q)(hl:as.length≤LIM)(h:GA X P n Q (D+2) w d as):GN X P n Q (D+3) w true (tcall k z as):=⟨ha_call hl h.an,fun lo hi=>XE.le (ex_call C (h.xa lo hi)) (Qd _)⟩
theorem gn_asg(hl:l < n∧Q l)(hn:isNv e=false)(h:GN X P n Q (D+3) w d e):GN X P n Q (D+4) w d (tasg l e):=⟨ha_asg hn h.ha,fun lo hi=>ex_asg hl (h.xe lo hi)⟩
theorem GN.ge(h:GN X P n Q D w d (.tup (.int c::.int k::as)))(hc:(c==91)=false)(h1:(c==1)=false)(h3:(c==3)=false):GE X sp S P n Q D w d sl (.tup (.int c::.int k::as)):=.no rfl hc (.inl ⟨h1,h3,_,_,rfl⟩) h
theorem ge_const(hc:rg c):GE X sp S P n Q (D+3) 0 false sl (tc k c):=.no rfl rfl (.inr ⟨k,c,hc,rfl⟩) (gn_const hc)
theorem GN.wide(h:GN X P n Q D w d e)(hw:w≤w'):GN X P n Q D w' d e:=⟨h.ha,fun lo hi=>(h.xe lo hi).wide hw (Qa _) (Qa _) (Qd _) (Qa _)⟩
theorem GE.wide(h:GE X sp S P n Q D w d sl e)(hw:w≤w'):GE X sp S P n Q D w' d sl e:=by
 induction h with
 |no a b q h=>exact .no a b q (h.wide hw)
 |yes a h1 h2=>exact .yes a h1 fun lo=>(h2 lo).rec fun a b c h1 h2 h3 h4 h5=>.mk a (Qf b hw) c h1 (h2.wide hw (Qa _) (Qa _) (Qd _) (Qa _)) h3 h4 h5
theorem GE.slot(h:GE X sp S P n Q D w d false e):GE X sp S P n Q D w d true e:=by
 induction h with
 |no a b q h=>exact .no a b q h
 |yes a h1 h2=>exact .yes a h1 fun lo=>(h2 lo).rec fun a b c h1 h2 _ h4 h5=>.mk a b c h1 h2 (fun h=>nomatch h) h4 h5
theorem ge_await(C:Spl X sp S)(E:Scp P n Q)(hl:l < n∧Q l):GE X sp S P n Q (D+6) 1 true true (.tup [.int 30,.int k,tloc 7 l]):=
 .yes rfl ha_await fun lo=>.mk (.cons ⟨_,_⟩ .nil) (Qd _) (sp_await C) (by lia) (ex_slot (D:=D+5) ((ex_await (D:=D+2) E hl (by lia) (Qa _)))) (fun h=>nomatch h) (ha_91 (D:=D+3)) (.nc rfl rfl rfl)
theorem ge_asg(hl:l < n∧Q l)(h:GE X sp S P n Q (D+3) w d sl e):GE X sp S P n Q (D+5) w d false (tasg l e):=by
 have hn:=h.nn
 induction h with
 |no a b q h=>exact((gn_asg hl hn h).le (Qn _)).ge rfl rfl rfl
 |yes a h1 h2=>
  refine .yes rfl ((ha_asg hn h1).le (Qn _)) fun lo=>?_
  obtain⟨a1,a2,a3,a4,a5,a6,a7,_⟩:=h2 lo
  exact .mk a1 a2 (sp_asg hn h1 (a3.le (Qn _))) a4 (XE.le (ex_asg (D:=D+2) hl a5) (by lia)) (fun _=>rfl) ((ha_asg rfl a7).le (by lia)) (.nc rfl rfl rfl)
theorem ge_ft(C:Spl X sp S)(E:Scp P n Q)(hl:l < n∧Q l)(h:GE X sp S P n Q (D+3) w d sl e):GE X sp S P n Q (D+10) (1+w) true false (tcall k z [tloc 7 l,e]):=by
 induction h with
 |no a b q h=>subst a;exact .no rfl rfl (.inl ⟨rfl,rfl,_,_,rfl⟩) (((gn_call (D:=D+1) E lim2 (ga_cons (gn_loc hl) (ga_cons h ga_nil))).le (by lia)).wide (by lia))
 |yes hn ha h=>
  refine .yes rfl ((ha_call (D:=D+1) lim2 (.no ha_2 (.yes ha))).le (by lia)) fun lo=>?_
  obtain⟨p1,p2,s,h1,x,_,h7,_⟩:=h (lo+1)
  exact .mk (.cons ⟨_,_⟩ p1) (by rw[List.length_cons];lia) ((sp_ft (D:=D) C ha (s.le (by lia))).le (by lia)) (by lia) (XE.le (ex_call (D:=D+6) E (XA.le (as_held (D:=D+4) hl (by lia) h1 (as_cons (XE.le x (by lia)) as_nil)) (Qn _))) (by lia) |>.wide (by lia) (Qa _) (Qa _) (Qd _) (Qa _)) (fun _=>rfl) ((ha_call (D:=D+1) lim2 (.no ha_91 (.no h7 .nil))).le (by lia)) (.nc rfl rfl rfl)
theorem ge_ftf(C:Spl X sp S)(E:Scp P n Q)(hl:l < n∧Q l)(hl':l' < n∧Q l'){l₂:Nat}(hl₂:l₂ < n∧Q l₂):GE X sp S P n Q (D+10) 2 true false (tcall k z [tloc 7 l,.tup [.int 30,.int 7,tloc 7 l'],tloc 7 l₂]):=
 .yes rfl ((ha_call (D:=D+1) lim3 (.no ha_2 (.yes ha_await))).le (by lia)) fun lo=>.mk (.cons ⟨_,_⟩ (.cons ⟨_,_⟩ .nil)) (Qd _) ((sp_ftf (D:=D) C ha_await ha_2 (sp_await (D:=D) C)).le (by lia)) (by lia)
  (XE.le (ex_call (D:=D+6) E (XA.le (as_held (D:=D+4) hl (j:=lo+1) (hi:=lo+1+1) (by lia) (by lia) (as_cons (XE.le (ex_slot (D:=D+3) (ex_await (D:=D) E hl' (by lia) (by lia))) (by lia)) (as_cons (ex_loc (D:=D+5) hl₂) as_nil))) (Qn _))) (by lia)) (fun _=>rfl) ((ha_call (D:=D+1) lim3 (.no ha_91 (.no ha_91 (.no ha_2 .nil)))).le (by lia)) (.nc rfl rfl rfl)
theorem ge_tff(C:Spl X sp S)(E:Scp P n Q){a b:V}{wb wa:Nat}(hb:GN X P n Q (D+3) wb d' b)(hc:GN X P n Q (D+3) wa b' a)(h:GE X sp S P n Q (D+3) w d sl e):GE X sp S P n Q (D+10) (w+(wb+wa)) true false (tcall k z [e,b,a]):=by
 induction h with
 |no q _ _ h=>subst q;exact .no rfl rfl (.inl ⟨rfl,rfl,_,_,rfl⟩) ((gn_call (D:=D+1) E lim3 (ga_cons h (ga_cons hb (ga_cons hc ga_nil)))).le (by lia))
 |yes hn ha h=>
  refine .yes rfl ((ha_call (D:=D+1) lim3 (.yes ha)).le (by lia)) fun lo=>?_
  obtain⟨p1,p2,s,h1,x,_,h7,_⟩:=h lo
  exact .mk p1 (Qf p2 (Qw _ _)) ((sp_tff ha hb.ha hc.ha s).le (by lia)) h1 (XE.le (ex_call (D:=D+2) E (as_cons x (as_cons (hb.xe _ _) (as_cons (hc.xe _ _) as_nil)))) (by lia)) (fun _=>rfl) ((ha_call (D:=D+1) lim3 (.no h7 (.no hb.ha (.no hc.ha .nil)))).le (by lia)) (.nc rfl rfl rfl)
end
inductive GSy(X:Wd)(sp:V)(S:Int→Sg)(P:RP)(n:Nat)(Q:Nat→Prop)(D w:Nat)(c:Int)(s:V)(lo:Int):Prop
 |mk {t hi}:Runs X D 505 [sp,s] (S lo) (t,S hi)→lo≤hi→XS X P n Q D w lo hi c s t→GSy X sp S P n Q D w c s lo
noncomputable abbrev GS(X:Wd)(sp:V)(S:Int→Sg)(P:RP)(n:Nat)(Q:Nat→Prop)(D w:Nat)(c:Int)(s:V):Prop:=∀lo,GSy X sp S P n Q D w c s lo
section
variable {X:Wd}{sp:V}{S:Int→Sg}{P:RP}{n:Nat}{Q:Nat→Prop}{D D' w w' l l' f:Nat}{d d' b' sl b:Bool}{e e' s t u g:V}{as pre:List V}{c z k lo hi lo' hi' j:Int}{ls:List Nat}
theorem XS.le(h:XS X P n Q D w lo hi c s t)(l:D≤D'):XS X P n Q D' w lo hi c s t:=⟨h.r.map l (fun h=>h.le l) fun h=>h.le l,h.bs,h.bt⟩
theorem XS.wide(h:XS X P n Q D w lo hi c s t)(h1:w≤w')(h2:lo'≤lo)(h3:hi≤hi'):XS X P n Q D w' lo' hi' c s t:=⟨h.r.wide h1 h2 h3 (Qd _) (Qa _),h.bs,h.bt⟩
theorem Bt.tp(h:Bt c t):Tp t:=by obtain⟨⟨h⟩,_⟩:=h;exact h.tp
theorem GSy.up(h:GSy X sp S P n Q D w c s lo)(l:D≤D')(h1:w≤w'):GSy X sp S P n Q D' w' c s lo:=by
 obtain⟨a,b,x⟩:=h
 exact⟨a.le l,b,(x.le l).wide h1 (Qa _) (Qa _)⟩
theorem lim_w(hw:w≤100)(h:pre.length≤w):([]:List V).length+pre.length < LIM:=QB (Qf (QT (Nat.zero_add _)) (Qf h hw)) (by decide)
theorem pl_1(h:Runs X D 512 [sp,t1 1 e] (S lo) (t,S hi)):Runs X (D+1) 505 [sp,t1 1 e] (S lo) (t,S hi):=.by 0 rfl fun q=>q _ _ h
theorem pl_2(h:Runs X D 512 [sp,t2 2 z e] (S lo) (t,S hi)):Runs X (D+1) 505 [sp,t2 2 z e] (S lo) (t,S hi):=.by 0 rfl fun q=>q _ _ h
theorem pl_12(h:Runs X D 512 [sp,t1 12 e] (S lo) (t,S hi)):Runs X (D+1) 505 [sp,t1 12 e] (S lo) (t,S hi):=.by 0 rfl fun q=>q _ _ h
theorem pl_13(h:Runs X D 512 [sp,t1 13 e] (S lo) (t,S hi)):Runs X (D+1) 505 [sp,t1 13 e] (S lo) (t,S hi):=.by 0 rfl fun q=>q _ _ h
theorem pl_16(h:Runs X D 512 [sp,t1 16 e] (S lo) (t,S hi)):Runs X (D+1) 505 [sp,t1 16 e] (S lo) (t,S hi):=.by 0 rfl fun q=>q _ _ h
theorem gs_expr(E:Env P n)(hw:w≤100)(h:GE X sp S P n Q D w d false e):GS X sp S P n Q (D+20) w 1 (t1 1 e):=fun lo=>by
 have hn:=h.nn
 obtain⟨p1,p2,s,h1,x,hc⟩:=h.y lo
 obtain⟨r,hb,wq,_⟩:=wp_ok (X:=X) (D:=D+3) (mk_1 (e:=.tup (.int _::_))) p1 (Qf p2 hw)
 have h2:Runs X (D+9) 512 [sp,t1 1 e] (S lo) _:=.by 264192 rfl fun q=>q true (congrArg not hn) _ _ _ ((s [] (lim_w hw p2)).le (by lia)) false (hc rfl) _ _ (r _)
 exact⟨(pl_1 h2).le (by lia),h1,(xs_expr E x hb wq).le (by lia)⟩
theorem gs_aw(C:Spl X sp S)(E:Scp P n Q)(hl:l < n∧Q l):GS X sp S P n Q (D+20) 1 1 (t1 1 (.tup [.int 30,.int k,tloc 7 l])):=fun lo=>by
 obtain⟨t,r,hb⟩:=rowof_ok (X:=X) (D:=D+2) (ss:=[taw (lo+1) (tloc 7 l)]) (.cons ⟨_,_⟩ .nil) (show 1≤LIM by decide)
 have h2:Runs X (D+7) 512 [sp,t1 1 (.tup [.int 30,.int k,tloc 7 l])] (S lo) (t,S (lo+1)):=.by 0 rfl fun q=>q _ _ _ (sp_await (D:=D) C [] (show 1 < LIM by decide)) _ _ (r _)
 exact⟨(pl_1 h2).le (by lia),by lia,(xs_drop (D:=D+2) E.env (ex_await (D:=D) E hl (by lia) (Qa _)) (.one (c:=95) ⟨.cut⟩ rfl) hb).le (by lia)⟩
theorem gs_loc(E:Env P n)(hw:w≤100)(hl:l < n∧Q l)(h:GE X sp S P n Q D w d sl e):GS X sp S P n Q (D+20) w 2 (t2 2 (.ofNat l) e):=fun lo=>by
 have hn:=h.nn
 obtain⟨p1,p2,s,h1,x,_⟩:=h.y lo
 obtain⟨r,hb,wq,_⟩:=wp_ok (X:=X) (D:=D+3) (mk_2 (i:=.ofNat l) (e:=.tup (.int _::_))) p1 (Qf p2 hw)
 have h2:Runs X (D+9) 512 [sp,t2 2 (.ofNat l) e] (S lo) _:=.by 128 rfl fun q=>q true (congrArg not hn) _ _ _ ((s [] (lim_w hw p2)).le (by lia)) _ _ (r _)
 exact⟨(pl_2 h2).le (by lia),h1,(xs_loc E hl hn rfl x hb wq).le (by lia)⟩
theorem gs_ret(E:Env P n)(hw:w≤100)(h:GE X sp S P n Q D w d sl e):GS X sp S P n Q (D+20) w 12 (t1 12 e):=fun lo=>by
 have hn:=h.nn
 obtain⟨p1,p2,s,h1,x,_⟩:=h.y lo
 obtain⟨r,hb,wq,_⟩:=wp_ok (X:=X) (D:=D+3) (mk_12 (e:=.tup (.int _::_))) p1 (Qf p2 hw)
 have h2:Runs X (D+9) 512 [sp,t1 12 e] (S lo) _:=.by 8192 rfl fun q=>q true (congrArg not hn) _ _ _ ((s [] (lim_w hw p2)).le (by lia)) _ _ (r _)
 exact⟨(pl_12 h2).le (by lia),h1,(xs_ret E hn rfl x hb wq).le (by lia)⟩
theorem gs_thr(E:Env P n)(hw:w≤100)(h:GE X sp S P n Q D w d sl e):GS X sp S P n Q (D+20) w 13 (t1 13 e):=fun lo=>by
 have hn:=h.nn
 obtain⟨p1,p2,s,h1,x,_⟩:=h.y lo
 obtain⟨r,hb,wq,_⟩:=wp_ok (X:=X) (D:=D+3) (mk_13 (e:=.tup (.int _::_))) p1 (Qf p2 hw)
 have h2:Runs X (D+9) 512 [sp,t1 13 e] (S lo) _:=.by 32768 rfl fun q=>q true (congrArg not hn) _ _ _ ((s [] (lim_w hw p2)).le (by lia)) _ _ (r _)
 exact⟨(pl_13 h2).le (by lia),h1,(xs_thr E hn rfl x hb wq).le (by lia)⟩
theorem gs_yield(E:Scp P n Q)(hw:w≤100)(h:GE X sp S P n Q D w d sl e):GS X sp S P n Q (D+20) w 16 (t1 16 e):=fun lo=>by
 obtain @⟨pre,c,l,hi,p1,p2,s,h1,x,_⟩:=h.y lo
 have ll:(pre++[V.tup [.int 93,t1 16 (.tup (.int c::l))]]).length≤101:=by rw[Qb,Qu];lia
 obtain⟨t,r,hb⟩:=rowof_ok (X:=X) (D:=D+4) (p1.app (.cons ⟨93,[t1 16 (.tup (.int c::l))]⟩ .nil)) (Qf ll (by decide))
 have h2:RunsL X (D+8) 519 [sp,t1 16 e] [] (S lo) (.flist (pre++[V.tup [.int 93,t1 16 (.tup (.int c::l))]]),none,S hi):=.by 2 rfl fun q=>q _ _ _ ((s [] (lim_w hw p2)).le (by lia)) (Qs.mpr (QB (Qf p2 hw) (by decide)))
 have h3:Runs X (D+9) 512 [sp,t1 16 e] (S lo) (t,S hi):=.by 0 rfl fun q=>q _ _ _ h2 _ _ (r _)
 exact⟨(pl_16 h3).le (by lia),h1,(xs_yield E x (.blk (by
  induction pre with
  |nil=>exact .one (c:=16) ⟨.cut⟩ rfl
  |cons x p=>exact ok1_app (List.cons_ne_nil _ _)) hb)).le (by lia)⟩
end
inductive Rs(X:Wd)(D:Nat)(sp:V)(S:Int→Sg):Int→List V→List V→Int→Prop
 |nil {lo}:Rs X D sp S lo [] [] lo
 |cons {lo s t m ss ts hi}:Runs X D 505 [sp,s] (S lo) (t,S m)→Rs X D sp S m ss ts hi→Rs X D sp S lo (s::ss) (t::ts) hi
structure GRz(X:Wd)(P:RP)(n:Nat)(Q:Nat→Prop)(D w:Nat)(lo hi:Int)(ss ts:List V):Prop where
 x:XR X P n Q (D+2) w lo hi ss ts
 tp:Tps ts
 hp:ss≠[]→∀T,T.stop=true→Row X (D+2) (rd true P) ts T N5 T
inductive GRy(X:Wd)(sp:V)(S:Int→Sg)(P:RP)(n:Nat)(Q:Nat→Prop)(D w:Nat)(ss:List V)(lo:Int):Prop
 |mk {ts hi}:Rs X (D+2) sp S lo ss ts hi→lo≤hi→GRz X P n Q D w lo hi ss ts→GRy X sp S P n Q D w ss lo
noncomputable abbrev GR(X:Wd)(sp:V)(S:Int→Sg)(P:RP)(n:Nat)(Q:Nat→Prop)(D w:Nat)(ss:List V):Prop:=∀lo,GRy X sp S P n Q D w ss lo
noncomputable abbrev srB:Ss:=.cons (.app 2 (.call 505 (.cons (.var 0) (.cons (.var 3) .nil)))) .nil
section
variable {X:Wd}{sp:V}{S:Int→Sg}{P:RP}{n:Nat}{Q Q':Nat→Prop}{D D' w w' l l' f:Nat}{d d' b' sl b:Bool}{e e' s t u g a v x:V}{as pre ss ts ys:List V}{c c' z k lo hi lo' hi' j:Int}{ls:List Nat}{tl:Rho}
theorem sr_all(h:Rs X D sp S lo ss ts hi):∀{ys:List V}{tl:Rho},Tl tl→ys.length+ss.length < LIM→∃tl',Rounds X D (B1 3) srB ss ((0,.v sp)::(1,.v v)::(2,.o ys)::tl) (S lo) (.next,(0,.v sp)::(1,.v v)::(2,.o (ys++ts))::tl',S hi):=by
 induction h with
 |nil=>intro ys tl _ _;rw[QA];exact⟨_,.nil⟩
 | @cons lo s t m ss ts hi h1 _ ih=>
  intro ys tl ht hl
  rw[List.length_cons]at hl
  obtain⟨tl',r⟩:=ih (ys:=ys++[t]) (.b s) (by rw[Qb,Qu];lia)
  rw[app1]at r
  have tn:OkB X D srB [(0,.v sp),(1,.v v),(2,.o ys),(3,.v s)] (S lo) (.next,[(0,.v sp),(1,.v v),(2,.o (ys++[t])),(3,.v s)],S m):=.by 1 fun q=>q _ _ h1 (Qs.mpr (by lia))
  exact⟨tl',.go (by induction ht<;>rfl) tn .next r⟩
theorem rs_ok(h:Rs X D sp S lo ss ts hi)(hl:ss.length < LIM):Runs X (D+1) 491 [sp,.tup ss] (S lo) (.tup ts,S hi):=
 (sr_all (v:=.tup ss) h (ys:=[]) .a (QB (QT (Nat.zero_add _)) hl)).elim fun _ r=>.by 2 rfl fun q=>q _ _ _ r
theorem gr_nil:GR X sp S P n Q D 0 []:=fun lo=>⟨.nil,Qa _,xr_nil,.nil,fun h=>absurd rfl h⟩
theorem XR.wide(h:XR X P n Q D w lo hi ss ts)(h1:w≤w')(h2:lo'≤lo)(h3:hi≤hi'):XR X P n Q D w' lo' hi' ss ts:=⟨h.r.wide h1 h2 h3 (Qd _) (Qa _),h.stp,h.len⟩
theorem gr_cons(h:GS X sp S P n Q (D+2) w c s)(h2:GR X sp S P n Q D w' ss):GR X sp S P n Q D (w+w') (s::ss):=fun lo=>by
 obtain⟨r,l1,x⟩:=h lo
 obtain⟨rr,l2,x2,tp,_⟩:=h2 _
 exact⟨.cons r rr,QH l1 l2,xr_cons (x.wide (Qd _) (Qa _) l2) (x2.wide (Qd _) l1 (Qa _)),.cons x.bt.tp tp,fun _ T s=>.out (x.bt.stop s) rfl⟩
theorem gs_block(E:Env P n)(hq:∀a,Q' a→Q a∨P.of[a]?=some (.int k)∧k≠0)(hq2:∀a,Q a→Q' a)(hl:(((ss.length:Nat):Int)==1)=false)(hl2:ss.length≤100)(hn:ss≠[])(h:GR X sp S P n Q' D w ss):GS X sp S P n Q (D+10) w 3 (tblk ss k):=fun lo=>by
 obtain⟨r,l1,z⟩:=h lo
 obtain⟨hm,hb⟩:=mk_blk (X:=X) (D:=D) (k:=k) z.tp (by rw[← z.x.len];exact Qf hl2 (by decide))
 have h2:Runs X (D+4) 505 [sp,tblk ss k] (S lo) _:=.by 64 rfl fun q=>q false hl _ _ (rs_ok r (QB hl2 (by decide))) _ _ (hm _)
 exact⟨h2.le (by lia),l1,(xs_block E z.x hq hq2 (z.hp hn) (.len hl) (.len (z.x.len▸hl)) hb).le (by lia)⟩
theorem gs_block1(E:Env P n)(hq:∀a,Q' a→Q a∨P.of[a]?=some (.int k)∧k≠0)(hq2:∀a,Q a→Q' a)(hc:(c==6)=false)(hc3:(c==93)=false)(h:GS X sp S P n Q' (D+2) w c (.tup (.int c::as))):GS X sp S P n Q (D+10) w 3 (tblk [.tup (.int c::as)] k):=fun lo=>by
 obtain⟨r,l1,x⟩:=h lo
 obtain⟨hb',h6⟩:=x.bt
 obtain⟨hm,hb⟩:=mk_blk (X:=X) (D:=D) (k:=k) (.cons x.bt.tp .nil) (show 1≤LIM by decide)
 have h2:Runs X (D+4) 505 [sp,tblk [.tup (.int c::as)] k] (S lo) _:=.by 2048 rfl fun q=>q false hc _ _ (rs_ok (.cons r .nil) (show 1 < LIM by decide)) _ _ (hm _)
 exact⟨h2.le (by lia),l1,(xs_block E (xr_cons x xr_nil) hq hq2 (fun T s=>.out (x.bt.stop s) rfl) (.one ⟨.same hc3⟩ hc) (.one hb' (h6.resolve_right fun q=>by subst q;exact nomatch hc)) hb).le (by lia)⟩
end
section
variable {X:Wd}{sp:V}{S:Int→Sg}{P:RP}{n:Nat}{Q Q':Nat→Prop}{D D' w w' l l' f:Nat}{d d' b' sl b:Bool}{e e' s t u g a v x:V}{as pre ss ts ys:List V}{c c' z k lo hi lo' hi' j:Int}{ls:List Nat}{tl:Rho}{σ:Sg}
theorem XE.wd{pre:List V}(h:XE X P n Q D w lo hi d pre e e')(h2:lo'≤lo)(h3:hi≤hi'):XE X P n Q D w lo' hi' d pre e e':=SX.wide h (Qd _) h2 h3 (Qd _) (Qa _)
theorem gs_if0(E:Env P n)(hw:w≤100)(h:GE X sp S P n Q D w d sl e)(ha:GS X sp S P n Q D w' c a):GS X sp S P n Q (D+20) (w+w') 4 (tif e a .none):=fun lo=>by
 obtain @⟨pre,c1,l1,h1,p1,p2,s,le1,x,_⟩:=h.y lo
 obtain @⟨t1,h2,r1,le2,x1⟩:=ha h1
 obtain⟨r,hb,wq,_⟩:=wp_ok (X:=X) (D:=D) (mk_if0 (e:=.tup (.int c1::l1)) x1.bt.tp) p1 (Qf p2 hw)
 have q1:Runs X (D+6) 505 [sp,tif e a .none] (S lo) _:=.by 0 rfl fun q=>q _ _ _ ((s [] (lim_w hw p2)).le (by lia)) _ _ (r1.le (by lia)) _ _ (.by 0 rfl fun q=>q) _ _ (r _)
 exact⟨q1.le (by lia),QH le1 le2,(xs_if (D:=D) E ((XE.le x (by lia)).wd (Qa _) le2) ((x1.le (by lia)).wide (Qd _) le1 (Qa _)) xo_none hb wq).le (by lia)⟩
theorem gs_if1(E:Env P n)(hw:w≤100)(h:GE X sp S P n Q D w d sl e)(ha:GS X sp S P n Q D w' c a)(hu:GS X sp S P n Q D w' c' u):GS X sp S P n Q (D+20) (w+w') 4 (tif e a u):=fun lo=>by
 obtain @⟨pre,c1,l1,h1,p1,p2,s,le1,x,_⟩:=h.y lo
 obtain @⟨t1,h2,r1,le2,x1⟩:=ha h1
 obtain @⟨t2,h3,r2,le3,x2⟩:=hu h2
 have hn:=x2.bs.nn
 obtain⟨r,hb,wq,_⟩:=wp_ok (X:=X) (D:=D) (mk_if1 (e:=.tup (.int c1::l1)) x1.bt.tp x2.bt.tp) p1 (Qf p2 hw)
 have q0:Runs X (D+5) 498 [sp,u] (S h2) (t2,S h3):=.by 2 rfl fun q=>q false hn _ _ (r2.le (by lia))
 have q1:Runs X (D+6) 505 [sp,tif e a u] (S lo) _:=.by 0 rfl fun q=>q _ _ _ ((s [] (lim_w hw p2)).le (by lia)) _ _ (r1.le (by lia)) _ _ q0 _ _ (r _)
 exact⟨q1.le (by lia),by lia,(xs_if (D:=D) E ((XE.le x (by lia)).wd (Qa _) (by lia)) ((x1.le (by lia)).wide (Qd _) le1 le3) (xo_some ((x2.le (by lia)).wide (Qd _) (by lia) (Qa _))) hb wq).le (by lia)⟩
theorem su_ok(h:pre.length+1≤LIM):Runs X (D+1) 526 [e,.flist pre] σ (.flist (pre++[tstop e]),σ):=.by 2 rfl fun q=>q (QR.mpr h)
theorem app2{x y:V}:(pre++[x])++[y]=pre++[x,y]:=QN pre [x] [y]
theorem gs_while(E:Env P n)(hw:w≤100)(hw':w+w'≤999000)(h:GE X sp S P n Q D w true sl e)(ha:GS X sp S P n Q D w' c a):GS X sp S P n Q (D+20) (w+w') 5 (.tup [.int 5,e,a]):=fun lo=>by
 have hn:=h.nn
 obtain @⟨t1,h1,r1,le1,x1⟩:=ha lo
 induction h with
 |no q _ _ h=>
  obtain⟨hm,hb⟩:=mk_while (X:=X) (D:=D) (e:=e) x1.bt.tp
  have q0:Runs X (D+5) 533 [sp,.tup [.int 5,e,a]] (S lo) _:=.by 0 rfl fun q=>q _ _ (r1.le (by lia)) _ _ ((h.ha _).le (by lia)) _ _ ((hm _).le (by lia))
  have q1:Runs X (D+6) 505 [sp,.tup [.int 5,e,a]] (S lo) _:=.by 0 rfl fun q=>q _ _ q0
  exact⟨q1.le (by lia),le1,(xs_while (D:=D) hn (XE.le (h.xe _ _) (by lia)) (x1.le (by lia)) hw' hb).le (by lia)⟩
 |yes _ hh h=>
  obtain @⟨pre,c1,l1,h2,p1,p2,s,le2,x,_⟩:=h h1
  have ll:(pre++[tstop (.tup (.int c1::l1))]).length≤101:=by rw[Qb,Qu];lia
  obtain⟨u,ru,hu⟩:=rowof_ok (X:=X) (D:=D) ((p1.app (.cons ⟨4,_⟩ .nil)).app (.cons x1.bt.tp .nil)) (by rw[Qb];exact Qf (Qv ll) (by decide))
  obtain⟨hm,hb⟩:=mk_while (X:=X) (D:=D) (e:=tTrue) hu.tp
  have q0:Runs X (D+5) 533 [sp,.tup [.int 5,e,a]] (S lo) _:=.by 2048 rfl fun q=>q _ _ (r1.le (by lia)) _ _ ((hh _).le (by lia)) _ _ _ ((s [] (lim_w hw p2)).le (by lia)) _ _ ((su_ok (D:=D) (Qf (Qv (Qf p2 hw)) (by decide))).le (by lia)) (QR.mpr (Qf (Qv ll) (by decide))) _ _ (ru _) _ _ ((hm _).le (by lia))
  have q1:Runs X (D+6) 505 [sp,.tup [.int 5,e,a]] (S lo) _:=.by 0 rfl fun q=>q _ _ q0
  rw[app2]at hu
  exact⟨q1.le (by lia),by lia,(xs_whileA (D:=D) E hn ((XE.le x (by lia)).wd le1 (Qa _)) ((x1.le (by lia)).wide (Qd _) (Qa _) le2) hw' hu hb).le (by lia)⟩
end
inductive DoY(X:Wd)(sp:V)(S:Int→Sg)(P:RP)(n:Nat)(Q Q':Nat→Prop)(D w w':Nat)(e a:V)(c k lo:Int):Prop
 |mk {pre e' t1 t h1 hi}:Runs X (D+6) 540 [sp,tdo a e,.int k] (S lo) (t,S hi)→lo≤h1→h1+1≤hi→XE X P n Q' (D+1) w (h1+1) hi true pre e e'→XS X P n Q D w' lo h1 c a t1→DoP (h1+1) k pre e' t1 t→DoY X sp S P n Q Q' D w w' e a c k lo
section
variable {X:Wd}{sp:V}{S:Int→Sg}{P:RP}{n:Nat}{Q Q':Nat→Prop}{D D' w w' l l' f:Nat}{d d' b' sl b:Bool}{e e' s t u g a v x:V}{as pre ss ts ys:List V}{c c' z k lo hi lo' hi' j:Int}{ls:List Nat}{tl:Rho}{σ:Sg}
theorem do_ok'(C:Spl X sp S)(hw:w≤100)(h:∀lo,GEy X sp S P n Q' D w true sl e lo)(ha:GS X sp S P n Q D w' c a):DoY X sp S P n Q Q' D w w' e a c k lo:=by
 obtain @⟨t1,h1,r1,le1,x1⟩:=ha lo
 obtain @⟨pre,c1,l1,h2,p1,p2,s,le2,x,_⟩:=h (h1+1)
 have ll:(pre++[tstop (.tup (.int c1::l1))]).length≤101:=by rw[Qb,Qu];lia
 obtain⟨m1,b1⟩:=mk_blk (X:=X) (D:=D+1) (k:=k) (p1.app (.cons ⟨4,[.tup (.int c1::l1),.tup [.int 18],.tup [.int 10]]⟩ .nil)) (Qf ll (by decide))
 obtain⟨m2,b2⟩:=mk_if1 (X:=X) (D:=D+1) (e:=tfirst (h1+1)) (a:=thold (h1+1) (tc 7 0)) ⟨_,_⟩ b1.tp
 obtain⟨u,m3,b3⟩:=rowof_ok (X:=X) (D:=D) (ss:=[_,t1]) (.cons b2.tp (.cons x1.bt.tp .nil)) (show 2≤LIM by decide)
 obtain⟨m4,b4⟩:=mk_while (X:=X) (D:=D+1) (e:=tTrue) b3.tp
 obtain⟨t,m5,b5⟩:=rowof_ok (X:=X) (D:=D) (ss:=[thold (h1+1) (tc 7 1),_]) (.cons ⟨_,_⟩ (.cons b4.tp .nil)) (show 2≤LIM by decide)
 have r:Runs X (D+5) 540 [sp,tdo a e,.int k] (S lo) (t,S h2):=.by 0 rfl fun q=>q _ _ (r1.le (by lia)) (C.me _) _ _ ((C.sl _).le (by lia)) _ _ _ ((s [] (lim_w hw p2)).le (by lia)) _ _ ((su_ok (D:=D) (Qf (Qv (Qf p2 hw)) (by decide))).le (by lia)) _ _ (m1 _) _ _ (m2 _) _ _ (m3 _) _ _ (m4 _) _ _ (m5 _)
 exact .mk (r.le (Qn _)) le1 le2 (XE.le x (by lia)) x1 ⟨b1,b2,b3,b4,b5⟩
theorem gs_do(C:Spl X sp S)(E:Env P n)(hw:w≤100)(hw':w+w'≤999000)(h:GE X sp S P n Q D w true sl e)(ha:GS X sp S P n Q D w' c a):GS X sp S P n Q (D+20) (w'+(w+w')+1+1) 6 (tdo a e):=fun lo=>by
 have hn:=h.nn
 induction h with
 |no q _ _ h=>
  obtain @⟨t1,h1,r1,le1,x1⟩:=ha lo
  obtain⟨hm,hb⟩:=mk_do (X:=X) (D:=D) (e:=e) x1.bt.tp
  have q0:Runs X (D+5) 533 [sp,tdo a e] (S lo) _:=.by 0 rfl fun q=>q _ _ ((h.ha _).le (by lia)) _ _ (r1.le (by lia)) _ _ ((hm _).le (by lia))
  have q1:Runs X (D+6) 505 [sp,tdo a e] (S lo) _:=.by 0 rfl fun q=>q _ _ q0
  exact⟨q1.le (by lia),le1,((xs_doN (D:=D) E hn (XE.le (h.xe _ _) (by lia)) (x1.le (by lia)) hw' hb).le (by lia)).wide (by lia) (Qa _) (Qa _)⟩
 |yes _ hh h=>
  obtain⟨r,le1,le2,x,x1,dp⟩:=do_ok' (k:=0) (lo:=lo) C hw h ha
  have q0:Runs X (D+7) 533 [sp,tdo a e] (S lo) _:=.by 0 rfl fun q=>q _ _ ((hh _).le (by lia)) _ _ r
  have q1:Runs X (D+8) 505 [sp,tdo a e] (S lo) _:=.by 0 rfl fun q=>q _ _ q0
  exact⟨q1.le (by lia),by lia,(xs_doA (D:=D) E hn (XE.le x (by lia)) (by rw[Int.add_sub_cancel];exact x1.le (by lia)) hw' (by lia) le2 dp).le (by lia)⟩
theorem gs_doB(C:Spl X sp S)(E:Env P n)(hw:w≤100)(hw':w+w'≤999000)(hq0:∀a,P.of[a]?=some (.int k)→¬Q a)(hq:∀a,Q' a→Q a∨P.of[a]?=some (.int k)∧k≠0)(hq2:∀a,Q a→Q' a)(h:GE X sp S P n Q' D w true sl e)(ha:GS X sp S P n Q D w' c a):GS X sp S P n Q (D+20) (w'+(w+w')+1+1) 3 (tblk [tdo a e] k):=fun lo=>by
 have hn:=h.nn
 induction h with
 |no q _ _ h=>
  obtain @⟨t1,h1,r1,le1,x1⟩:=ha lo
  obtain⟨hm,hb⟩:=mk_do (X:=X) (D:=D) (e:=e) x1.bt.tp
  have q0:Runs X (D+5) 533 [sp,tdo a e] (S lo) _:=.by 0 rfl fun q=>q _ _ ((h.ha _).le (by lia)) _ _ (r1.le (by lia)) _ _ ((hm _).le (by lia))
  have q1:Runs X (D+6) 505 [sp,tdo a e] (S lo) _:=.by 0 rfl fun q=>q _ _ q0
  obtain⟨hm2,hb2⟩:=mk_blk (X:=X) (D:=D+4) (k:=k) (.cons hb.tp .nil) (show 1≤LIM by decide)
  have q2:Runs X (D+8) 505 [sp,tblk [tdo a e] k] (S lo) _:=.by 0 rfl fun q=>q _ _ ((h.ha _).le (by lia)) _ _ (rs_ok (.cons q1 .nil) (show 1 < LIM by decide)) _ _ (hm2 _)
  exact⟨q2.le (by lia),le1,((xs_doNB (D:=D) E hq hq2 hn (XE.le (h.xe _ _) (by lia)) (x1.le (by lia)) hw' hb hb2).le (by lia)).wide (by lia) (Qa _) (Qa _)⟩
 |yes _ hh h=>
  obtain⟨r,le1,le2,x,x1,dp⟩:=do_ok' (k:=k) (lo:=lo) C hw h ha
  have q1:Runs X (D+7) 505 [sp,tblk [tdo a e] k] (S lo) _:=.by 0 rfl fun q=>q _ _ ((hh _).le (by lia)) _ _ r
  exact⟨q1.le (by lia),by lia,(xs_doAB (D:=D) E hq0 hq hq2 hn (XE.le x (by lia)) (by rw[Int.add_sub_cancel];exact x1.le (by lia)) hw' (by lia) le2 dp).le (by lia)⟩
end
inductive FoY(X:Wd)(sp:V)(S:Int→Sg)(P:RP)(n:Nat)(Q:Nat→Prop)(D w:Nat)(e a i s:V)(k h2:Int):Prop
 |mk {e' a' d hi}:h2≤hi→(∀lo h1 i' s',Runs X (D+1) 491 [sp,.tup [i]] (S lo) (.tup [i'],S h1)→Runs X (D+1) 491 [sp,.tup [s]] (S h1) (.tup [s'],S h2)→Tp i'→Tp s'→∃t,Runs X (D+6) 547 [sp,tfor [i] e [s] a k] (S lo) (t,S hi)∧Bare t (tfor [i'] e' [s'] a' k))→
  SX false X P n Q (D+8) Fv w h2 hi d [] (fun b=>FoX X (D+8) (rd b P) e a) (FoX X (D+8) (rd true P) e' a')→(∀b W,W.stop=true→Vd n W→Zs n Fs (FoX X (D+8) (rd b P) e a) W)→(∀W,W.stop=true→Vd n W→Zs n Fs (FoX X (D+8) (rd true P) e' a') W)→FoY X sp S P n Q D w e a i s k h2
inductive GEs(X:Wd)(sp:V)(S:Int→Sg)(P:RP)(n:Nat)(Q:Nat→Prop)(D w:Nat)(d:Bool)(e:V)(lo:Int):Prop
 |mk {t hi}:Runs X (D+10) 505 [sp,t1 1 e] (S lo) (t,S hi)→lo≤hi→SX false X P n Q (D+6) Fe w lo hi d [] (fun b=>Xs X (D+6) (rd b P) (t1 1 e)) (Xs X (D+6) (rd true P) t)→Bt 1 t→GEs X sp S P n Q D w d e lo
section
variable {X:Wd}{sp:V}{S:Int→Sg}{P:RP}{n:Nat}{Q Q':Nat→Prop}{D D' w w' wi ws l l' f:Nat}{d d' b' sl b:Bool}{e e' s t u g a v x i:V}{as pre ss ts ys:List V}{c c' ci z k lo hi lo' hi' j h2:Int}{ls:List Nat}{tl:Rho}{σ:Sg}{W:RW}
theorem tf_s{P':RP}(hn:isNv e=false)(h:Zs n rg (Ev X D P' e) W):Zs n Fv (Tf X D P' e) W:=by
 obtain⟨a,_,z⟩:=h
 rcases odd (by assumption)with q|q
 ·exact .mk (tf_of hn a (.inl ⟨q,rfl⟩)) .next z
 ·exact .mk (tf_of hn a (.inr ⟨q,rfl⟩)) .brk z
theorem fo_none(ha:GS X sp S P n Q D w' c a):FoY X sp S P n Q D (w+w') .none a i s k h2:=by
 obtain @⟨t1,h3,r1,le1,x1⟩:=ha h2
 have x:=x1.le (by lia:D≤D+8)
 have tz:∀{P':RP} {W:RW},W.stop=true→Vd n W→Zs n Fv (Tf X (D+8) P' .none) W:=fun s v=>.mk (.yes .no) .next (.refl s v)
 exact .mk le1 (fun lo h1 i' s' q1 q2 p1 p2=>(mk_for (X:=X) (D:=D) (e:=.none) (k:=k) x1.bt.tp p1 p2).rec fun hm hb=>⟨_,.by 0 rfl fun q=>q _ _ (q1.le (by lia)) _ _ (q2.le (by lia)) _ _ (r1.le (by lia)) _ _ (.by 0 rfl fun q=>q) _ _ ((hm _).le (by lia)),hb⟩)
  ((fox_seq (D:=D+6) tf_none x).wide (by lia) (Qa _) (Qa _) (Qd _) (Qa _)) (fun b W s v=>fox_s (tz s v) fun _ s=>x.bs.stop s) fun W s v=>fox_s (tz s v) fun _ s=>x.bt.stop s
theorem fo_ge(E:Env P n)(hw:w≤100)(h:GE X sp S P n Q D w d sl e)(ha:GS X sp S P n Q D w' c a):FoY X sp S P n Q D (w+w') e a i s k h2:=by
 have hn:=h.nn
 obtain @⟨t1,h3,r1,le1,x1⟩:=ha h2
 have aw:∀{b:Bool} {σ},Ha X D e b→Runs X (D+5) 365 [e] σ (.bool b,σ):=fun h=>.by 4 rfl fun q=>q true (congrArg not hn) _ _ ((h _).le (by lia))
 induction h with
 |no q0 _ _ h=>
  have x:=x1.le (by lia:D≤D+8)
  have xe:=XE.le (h.xe h2 h3) (by lia:D≤D+8)
  exact .mk le1 (fun lo h1 i' s' q1 q2 p1 p2=>(mk_for (X:=X) (D:=D) (e:=e) (k:=k) x1.bt.tp p1 p2).rec fun hm hb=>⟨_,.by 0 rfl fun q=>q _ _ (q1.le (by lia)) _ _ (q2.le (by lia)) _ _ (r1.le (by lia)) _ _ (aw h.ha) _ _ ((hm _).le (by lia)),hb⟩)
   (fox_seq (D:=D+6) (tf_dir hn xe) x) (fun b W s v=>fox_s (tf_s hn (xe.stop b W s v)) fun _ s=>x.bs.stop s) fun W s v=>fox_s (tf_s hn (xe.stop true W s v)) fun _ s=>x.bt.stop s
 |yes _ hh h=>
  obtain @⟨pre,c1,l1,h4,p1,p2,s',le2,x,_⟩:=h h3
  have ll:(pre++[tstop (.tup (.int c1::l1))]).length≤101:=by rw[Qb,Qu];lia
  obtain⟨u,ru,hu⟩:=rowof_ok (X:=X) (D:=D) ((p1.app (.cons ⟨4,_⟩ .nil)).app (.cons x1.bt.tp .nil)) (by rw[Qb];exact Qf (Qv ll) (by decide))
  have hu2:=hu
  rw[app2]at hu2
  have xx:=x1.le (by lia:D≤D+8)
  exact .mk (by lia) (fun lo h1 i' s2 q1 q2 p3 p4=>(mk_for (X:=X) (D:=D) (e:=.none) (k:=k) hu.tp p3 p4).rec fun hm hb=>⟨_,.by 128 rfl fun q=>q _ _ (q1.le (by lia)) _ _ (q2.le (by lia)) _ _ (r1.le (by lia)) _ _ (aw hh) _ _ _ ((s' [] (lim_w hw p2)).le (by lia)) _ _ ((su_ok (D:=D) (Qf (Qv (Qf p2 hw)) (by decide))).le (by lia)) (QR.mpr (Qf (Qv ll) (by decide))) _ _ ((ru _).le (by lia)) _ _ ((hm _).le (by lia)),hb⟩)
   (fox_await (D:=D) E hn ((XE.le x (by lia)).wd le1 (Qa _)) ((x1.le (by lia)).wide (Qd _) (Qa _) le2) hu2) (fun b W s v=>fox_s (D:=D+8) (tf_s hn ((x.stop b W s v).rec fun a g z=>.mk (a.le (Qw _ _)) g z)) fun _ s=>xx.bs.stop s) fun W s v=>fox_s (.mk (.yes .no) .next (.refl s v)) fun _ s=>x_stop hu2 s
theorem ge_s(E:Env P n)(hw:w≤100)(h:GE X sp S P n Q D w d false e):GEs X sp S P n Q D w d e lo:=by
 have hn:=h.nn
 obtain⟨p1,p2,s,h1,x,hc⟩:=h.y lo
 obtain⟨r,hb,wq,_⟩:=wp_ok (X:=X) (D:=D+3) (mk_1 (e:=.tup (.int _::_))) p1 (Qf p2 hw)
 have h2:Runs X (D+9) 512 [sp,t1 1 e] (S lo) _:=.by 264192 rfl fun q=>q true (congrArg not hn) _ _ _ ((s [] (lim_w hw p2)).le (by lia)) false (hc rfl) _ _ (r _)
 exact⟨pl_1 h2,h1,xs_exprE E x hb wq,wq.bt ⟨⟨hb⟩,.inl rfl⟩⟩
theorem gs_for(E:Env P n)(hq:∀a,Q' a→Q a∨P.of[a]?=some (.int k)∧k≠0)(hq2:∀a,Q a→Q' a)(hw':ws+w≤999000)(hws:ws≤100)(hi:GS X sp S P n Q' (D+2) wi ci i)(hs:GE X sp S P n Q' D ws true false e)(hf:∀lo,FoY X sp S P n Q' (D+10) w u a i (t1 1 e) k lo):GS X sp S P n Q (D+30) (wi+(w+(ws+w))) 7 (tfor [i] u [t1 1 e] a k):=fun lo=>by
 obtain @⟨i',h1,ri,le1,xi⟩:=hi lo
 obtain @⟨s',h2,rs,le2,xs,bs⟩:=ge_s (lo:=h1) E hws hs
 obtain @⟨u',a',d,h3,le3,run,hX,hXs,hXt⟩:=hf h2
 obtain⟨t,r,hb⟩:=run lo h1 i' s' ((rs_ok (D:=D+10) (.cons (ri.le (by lia)) .nil) (show 1 < LIM by decide)).le (by lia)) ((rs_ok (D:=D+10) (.cons rs .nil) (show 1 < LIM by decide)).le (by lia)) xi.bt.tp bs.tp
 have q0:Runs X (D+17) 533 [sp,tfor [i] u [t1 1 e] a k] (S lo) (t,S h3):=.by 0 rfl fun q=>q _ _ r
 have q1:Runs X (D+18) 505 [sp,tfor [i] u [t1 1 e] a k] (S lo) (t,S h3):=.by 0 rfl fun q=>q _ _ q0
 have ss:=((xs.good fun _ h=>h).map (D':=D+17) (R':=Row X (D+17) (rd true P) [s']) (S':=fun b=>Row X (D+17) (rd b P) [t1 1 e]) (by lia) (fun h=>row1 (h.2.le (by lia)) h.1.zc) fun h=>row1 (h.2.le (by lia)) h.1.zc).wide (lo':=lo) (hi':=h3) (Qd _) le1 le3 (Qd _) (Qa _)
 have xi2:=(xi.le (by lia:D+2≤D+17)).wide (lo':=lo) (hi':=h3) (Qd _) (Qa _) (by lia)
 exact⟨q1.le (by lia),by lia,(xs_for (D:=D+15) E hq hq2 (xr_cons xi2 xr_nil) (hX.wide (Qd _) (by lia) (Qa _) (Qd _) (Qa _)) hXs hXt ss (fun _ _ s=>.out (x_stop (.same rfl) s) rfl) (fun _ s=>.out (bs.stop s) rfl) hw' hb).le (by lia)⟩
end
inductive GU(X:Wd)(P:RP)(n:Nat)(Q:Nat→Prop)(D w:Nat):V→Prop
 |no:GU X P n Q D w .none
 |yes {u d}:isNv u=false→GN X P n Q D w d u→GU X P n Q D w u
section
variable {X:Wd}{sp:V}{S:Int→Sg}{P:RP}{n:Nat}{Q Q':Nat→Prop}{D D' w w' wi wt ws l l' f j:Nat}{d d' b' sl b:Bool}{e e' e₂ s t u g a v x i:V}{as pre ss ts ys:List V}{c c' ci z k lo hi lo' hi' h2:Int}{ls:List Nat}{tl:Rho}{σ:Sg}{W:RW}
theorem gs_each(E:Env P n)(hq:∀a,Q' a→Q a∨P.of[a]?=some (.int k)∧k≠0)(hq2:∀a,Q a→Q' a)(hw:w≤100)(hj:j < n)(h1:j≠1)(h2:j≠2)(h:GE X sp S P n Q D w d sl e)(ht:GN X P n Q' D wt d' t)(ha:GS X sp S P n Q' D w' c a):GS X sp S P n Q (D+20) (w+(wt+w'+(wt+w'+(wt+w'+0)))) 8 (eaS j e a e₂ t k):=fun lo=>by
 obtain @⟨pre,c1,l1,h3,p1,p2,s,le1,x,_⟩:=h.y lo
 obtain @⟨t1,h4,r1,le2,x1⟩:=ha h3
 obtain⟨r,hb,wq,_⟩:=wp_ok (X:=X) (D:=D) (mk_each (l:=j) (e:=.tup (.int c1::l1)) (m:=e₂) (x:=t) (k:=k) x1.bt.tp) p1 (Qf p2 hw)
 have q1:Runs X (D+6) 505 [sp,eaS j e a e₂ t k] (S lo) _:=.by 0 rfl fun q=>q _ _ _ ((s [] (lim_w hw p2)).le (by lia)) _ _ (r1.le (by lia)) _ _ (r _)
 exact⟨q1.le (by lia),QH le1 le2,(xs_each (D:=D) E hq hq2 ((XE.le x (by lia)).wd (Qa _) le2) (XE.le (ht.xe _ _) (by lia)) ((x1.le (by lia)).wide (Qd _) le1 (Qa _)) hj h1 h2 hb wq).le (by lia)⟩
theorem GU.gx(h:GU X P n Q D w u)(l:D≤D'):GnX X P n Q D' w lo hi u:=by
 induction h with
 |no=>exact .no
 |yes hn h=>exact .yes hn (XE.le (h.xe _ _) l)
theorem gs_using(E:Env P n)(hw:w≤100)(hj:j < n∧Q j)(h1:j≠1)(h2:j≠2)(h:GE X sp S P n Q D w d sl e)(hu:GU X P n Q D wt u)(ha:GS X sp S P n Q D w' c a):GS X sp S P n Q (D+20) (w+(w'+wt)) 15 (tuse j e u a):=fun lo=>by
 obtain @⟨pre,c1,l1,h3,p1,p2,s,le1,x,_⟩:=h.y lo
 obtain @⟨t1,h4,r1,le2,x1⟩:=ha h3
 obtain⟨r,hb,wq,_⟩:=wp_ok (X:=X) (D:=D) (mk_use (l:=j) (e:=.tup (.int c1::l1)) (x:=u) x1.bt.tp) p1 (Qf p2 hw)
 have q1:Runs X (D+6) 505 [sp,tuse j e u a] (S lo) _:=.by 0 rfl fun q=>q _ _ _ ((s [] (lim_w hw p2)).le (by lia)) _ _ (r1.le (by lia)) _ _ (r _)
 exact⟨q1.le (by lia),QH le1 le2,(xs_using (D:=D) E ((XE.le x (by lia)).wd (Qa _) le2) (hu.gx (by lia)) ((x1.le (by lia)).wide (Qd _) le1 (Qa _)) hj h1 h2 hb wq).le (by lia)⟩
end
inductive HL(X:Wd)(D:Nat)(sp:V)(S:Int→Sg):Int→List V→List V→Int→Prop
 |nil {lo}:HL X D sp S lo [] [] lo
 |cons {lo z l u b v m rows rows' hi}:(∀σ,Runs X D 365 [u] σ (.bool false,σ))→Runs X D 505 [sp,b] (S lo) (v,S m)→Tp v→HL X D sp S m rows rows' hi→HL X D sp S lo (.tup [z,l,u,b]::rows) (.tup [z,l,u,v]::rows') hi
inductive UO:V→Prop
 |no:UO .none
 |yes {v}:Tp v→UO v
inductive HY(X:Wd)(sp:V)(S:Int→Sg)(P:RP)(n:Nat)(Q:Nat→Prop)(D w:Nat)(rows:List V)(lo:Int):Prop
 |mk {rows' hi}:HL X (D+10) sp S lo rows rows' hi→lo≤hi→HsX X P n Q (D+3) w lo hi rows rows'→HY X sp S P n Q D w rows lo
inductive LO(X:Wd)(sp:V)(S:Int→Sg)(P:RP)(n:Nat)(Q:Nat→Prop)(D w:Nat):V→Prop
 |no:LO X sp S P n Q D w .none
 |yes {u c}:GS X sp S P n Q D w c u→LO X sp S P n Q D w u
section
variable {α:Type}{X:Wd}{sp:V}{S:Int→Sg}{P:RP}{n m:Nat}{Q Q' Q₂:Nat→Prop}{D D' w w' wi wt ws l l' f:Nat}{d d' b' sl b j:Bool}{e e' e₂ s t u u' g a v x i a':V}{as pre ss ts ys rows rows' hs:List V}{c c' ci z k lo hi lo' hi' h1 h2 δ:Int}{ls:List Nat}{tl:Rho}{σ:Sg}{W T:RW}{gg:α→Prop}{F F':α→RW→Prop}
theorem Gx.wide(h:Gx j n Q gg m lo hi δ W T F F')(h1:lo'≤lo)(h2:hi≤hi'):Gx j n Q gg m lo' hi' δ W T F F':=by
 obtain⟨a,b,o⟩:=h
 induction o with
 |go gx s1 mv=>exact .mk a b (.go gx s1 (mv.wide h1 h2 (Qa _)))
 |ff g1 g2 k q=>exact .mk a b (.ff g1 g2 k q)
theorem HsX.wide(h:HsX X P n Q D w lo hi ss ts)(hw:w≤w')(h1:lo'≤lo)(h2:hi≤hi'):HsX X P n Q D w' lo' hi' ss ts:=⟨fun x m W T hx s=>(h.go x m W T hx (s.less (QK hw m))).wide h1 h2,h.ss,h.st⟩
theorem FinX.wide(h:FinX X P n Q D w lo hi u u')(hw:w≤w')(h1:lo'≤lo)(h2:hi≤hi'):FinX X P n Q D w' lo' hi' u u':=⟨fun f m W T hf s=>(h.go f m W T hf (s.less (QK hw m))).wide h1 h2,h.ss,h.st⟩
theorem mk_try0(h:Tp a)(hu:UO u):MkX X (D+3) (ttry a [] u):=by
 obtain⟨c,l⟩:=h
 induction hu with
 |no=>exact mark_ok (D:=D+2) (fun σ=>.by 0 rfl fun q=>q _ _ (.by 0 rfl fun q=>q)) (.cons ⟨c,l⟩ .nil) rfl
 |yes h=>obtain⟨c',l'⟩:=h;exact mark_ok (D:=D+2) (fun σ=>.by 0 rfl fun q=>q _ _ (.by 0 rfl fun q=>q)) (.cons ⟨c,l⟩ (.cons ⟨c',l'⟩ .nil)) rfl
theorem mk_try1{z l w v:V}(h:Tp a)(hv:Tp v)(hu:UO u):MkX X (D+3) (ttry a [.tup [z,l,w,v]] u):=by
 obtain⟨c,l⟩:=h
 induction hu with
 |no=>exact mark_ok (D:=D+2) (fun σ=>.by 0 rfl fun q=>q _ _ (.by 0 rfl fun q=>q)) (.cons ⟨c,l⟩ (.cons hv .nil)) rfl
 |yes h=>obtain⟨c',l'⟩:=h;exact mark_ok (D:=D+2) (fun σ=>.by 0 rfl fun q=>q _ _ (.by 0 rfl fun q=>q)) (.cons ⟨c,l⟩ (.cons hv (.cons ⟨c',l'⟩ .nil))) rfl
theorem mk_try2{z l w v z' l' w' v':V}(h:Tp a)(hv:Tp v)(hv':Tp v')(hu:UO u):MkX X (D+3) (ttry a [.tup [z,l,w,v],.tup [z',l',w',v']] u):=by
 obtain⟨c,l⟩:=h
 induction hu with
 |no=>exact mark_ok (D:=D+2) (fun σ=>.by 0 rfl fun q=>q _ _ (.by 0 rfl fun q=>q)) (.cons ⟨c,l⟩ (.cons hv (.cons hv' .nil))) rfl
 |yes h=>obtain⟨c',l'⟩:=h;exact mark_ok (D:=D+2) (fun σ=>.by 0 rfl fun q=>q _ _ (.by 0 rfl fun q=>q)) (.cons ⟨c,l⟩ (.cons hv (.cons hv' (.cons ⟨c',l'⟩ .nil)))) rfl
theorem try_run(h:HL X (D+10) sp S lo rows rows' h1)(hl:rows.length≤2)(ha:Runs X (D+10) 505 [sp,a] (S h1) (a',S h2))(hu:Runs X (D+10) 498 [sp,u] (S h2) (u',S hi))(ta:Tp a')(tu:UO u'):∃t,Runs X (D+11) 582 [sp,ttry a rows u] (S lo) (t,S hi)∧Bare t (ttry a' rows' u'):=by
 induction h with
 |nil=>exact(mk_try0 (X:=X) (D:=D+7) ta tu).rec fun m b=>⟨_,.by 0 rfl fun q=>q _ _ ha _ _ hu _ _ (m _),b⟩
 |cons w1 r1 t1 h=>
  induction h with
  |nil=>exact(mk_try1 (X:=X) (D:=D+7) ta t1 tu).rec fun m b=>⟨_,.by 0 rfl fun q=>q _ _ (w1 _) _ _ r1 _ _ ha _ _ hu _ _ (m _),b⟩
  |cons w2 r2 t2 h=>
   induction h with
   |nil=>exact(mk_try2 (X:=X) (D:=D+7) ta t1 t2 tu).rec fun m b=>⟨_,.by 0 rfl fun q=>q _ _ (w1 _) _ _ r1 _ _ (w2 _) _ _ r2 _ _ ha _ _ hu _ _ (m _),b⟩
   |cons=>exact absurd hl (by simp)
theorem hy_nil:HY X sp S P n Q D 0 [] lo:=⟨.nil,Qa _,hs_nil⟩
theorem GU.wx(h:GU X P n Q D w u)(l:D≤D'):WhX X P n Q D' w lo hi u:=by
 induction h with
 |no=>exact .no
 |yes hn h=>exact .yes hn (XE.le (h.xe _ _) l)
theorem GU.aw(h:GU X P n Q D w u):Runs X (D+1) 365 [u] σ (.bool false,σ):=by
 induction h with
 |no=>exact .by 0 rfl fun q=>q
 |yes hn h=>exact .by 4 rfl fun q=>q true (congrArg not hn) _ _ (h.ha _)
theorem hy_cons(E:Env P n)(hq:∀a,Q' a→Q a∨P.of[a]?=some (.int k)∧k≠0)(hq2:∀a,Q a→Q' a)(hq3:∀a,Q₂ a→a < n→Q' a)(hq4:∀a,Q a→a < n→Q₂ a)(hn:(((hs.length:Nat):Int)==1)=false)(hl2:hs.length≤100)(hz:z=16∨z=-1∨z=17)(hl:l=0∨l < n∧l≠1∧l≠2)(hu:GU X P n Q' D wi u)(h1:GR X sp S P n Q₂ D w hs)(hr:∀lo,HY X sp S P n Q D w' rows lo):HY X sp S P n Q D (wi+(w+1+w')) (.tup [.int z,.int (.ofNat l),u,tblk hs k]::rows) lo:=by
 obtain⟨r,l1,q⟩:=h1 lo
 obtain⟨hm,hb⟩:=mk_blk (X:=X) (D:=D) (k:=k) q.tp (by rw[← q.x.len];exact Qf hl2 (by decide))
 have h2:Runs X (D+4) 505 [sp,tblk hs k] (S lo) _:=.by 64 rfl fun q=>q false hn _ _ (rs_ok r (QB hl2 (by decide))) _ _ (hm _)
 obtain⟨rr,l2,hx⟩:=hr _
 exact⟨.cons (fun σ=>hu.aw.le (by lia)) (h2.le (by lia)) hb.tp rr,QH l1 l2,hs_cons E hq hq2 hq3 hq4 hb hn hz hl (hu.wx (by lia)) (q.x.wide (Qd _) (Qa _) l2) (hx.wide (Qd _) l1 (Qa _))⟩
theorem gs_try(ha:GS X sp S P n Q D w c a)(hl:rows.length≤2)(hh:∀lo,HY X sp S P n Q D w' rows lo)(hu:LO X sp S P n Q D wt u):GS X sp S P n Q (D+20) (w+(w'+wt)) 14 (ttry a rows u):=fun lo=>by
 obtain @⟨rows',h1,rr,l1,hx⟩:=hh lo
 obtain @⟨a',h2,r1,l2,x1⟩:=ha h1
 have fin:∀{u' hi},Runs X (D+10) 498 [sp,u] (S h2) (u',S hi)→h2≤hi→UO u'→FinX X P n Q (D+4) wt lo hi u u'→GSy X sp S P n Q (D+20) (w+(w'+wt)) 14 (ttry a rows u) lo:=fun ru l3 tu fx=>by
  obtain⟨t,r,hb⟩:=try_run rr hl (r1.le (by lia)) ru x1.bt.tp tu
  have q1:Runs X (D+12) 505 [sp,ttry a rows u] (S lo) (t,_):=.by 0 rfl fun q=>q _ _ r
  exact⟨q1.le (by lia),by lia,(xs_try (D:=D) ((x1.le (by lia)).wide (Qd _) l1 l3) (hx.wide (Qd _) (Qa _) (by lia)) fx hb).le (by lia)⟩
 induction hu with
 |no=>exact fin (.by 0 rfl fun q=>q) (Qa _) .no (fin_none.wide (QC _) (Qa _) (Qa _))
 |yes hu=>
  obtain⟨r2,l3,x2⟩:=hu h2
  have hn:=x2.bs.nn
  exact fin (.by 2 rfl fun q=>q false hn _ _ (r2.le (by lia))) l3 (.yes x2.bt.tp) (fin_some ((x2.le (by lia)).wide (Qd _) (by lia) (Qa _)))
end
inductive Wt(X:Wd)(D:Nat):V→Bool→Prop
 |const {y}:Wt X D (.tup [.int 1,y]) false
 |null:Wt X D (.tup [.int 4]) false
 |dflt:Wt X D tdef false
 |type {k l e b}:(∀σ,Runs X D 365 [e] σ (.bool b,σ))→Wt X D (.tup [.int 3,k,l,e]) b
inductive Ds:List V→Prop
 |n:Ds []
 |d:Ds [tdef]
noncomputable abbrev lbB:Ss:=.cons (.iff (.bop true (.cons (.cmp .eq (.sub (.var 8) (.int 0)) (.int 3)) (.cons (.call 365 (.cons (.sub (.var 8) (.int 3)) .nil)) .nil))) (.cons (.asg 4 (.bool true)) .nil) .nil) .nil
noncomputable abbrev lbR(sp s e':V)(pre:List V)(w:Bool)(ys:List V)(a b:V)(tl:Rho):Rho:=(0,.v sp)::(1,.v s)::(2,.o pre)::(3,.v e')::(4,.v (.bool w))::(5,.o ys)::(6,.v a)::(7,.v b)::tl
inductive Tl8:Rho→Prop
 |a:Tl8 []
 |b (y):Tl8 [(8,.v y)]
inductive LQ(X:Wd)(P:RP)(n:Nat)(Q:Nat→Prop)(D w:Nat):V→Prop
 |const {y}:LQ X P n Q D w (tlc y)
 |null:LQ X P n Q D w (.tup [.int 4])
 |type {k l e}:l=0∨l < n∧Q l→GU X P n Q D w e→LQ X P n Q D w (ttype k l e)
section
variable {X:Wd}{sp:V}{S:Int→Sg}{P:RP}{n m:Nat}{Q Q' Q₂:Nat→Prop}{D D' w w' wl wi wt ws l l' f j:Nat}{d d' b' sl b ww:Bool}{e e' e₂ s t u u' g v x i a' L L1 L2:V}{as pre ss ts ys d1 d2 r1 r2 R:List V}{c c' ci z k lo hi lo' hi' h1 h2 xx:Int}{ls:List Nat}{tl:Rho}{σ:Sg}{W T:RW}
theorem lb_turn{a b:V}{bb:Bool}(h:Wt X D L bb):OkB X D lbB (lbR sp s e' pre ww ys a b [(8,.v L)]) σ (.next,lbR sp s e' pre (ww||bb) ys a b [(8,.v L)],σ):=by
 cases h with
 |const=>rw[Bool.or_false];exact .by 0 fun q=>q
 |null=>rw[Bool.or_false];exact .by 0 fun q=>q
 |dflt=>rw[Bool.or_false];exact .by 0 fun q=>q
 |type h=>
  induction bb with
  |true=>rw[Bool.or_true];exact .by 0 fun q=>q _ _ (h σ)
  |false=>rw[Bool.or_false];exact .by 0 fun q=>q _ _ (h σ)
theorem lb_all{a b:V}{bb:Bool}{ds:List V}(h:Wt X D L bb)(hd:Ds ds)(ht:Tl8 tl):∃y,Rounds X D (B1 8) lbB (L::ds) (lbR sp s e' pre ww ys a b tl) σ (.next,lbR sp s e' pre (ww||bb) ys a b [(8,.v y)],σ):=by
 induction hd with
 |n=>exact⟨_,.go (by induction ht<;>rfl) (lb_turn h) .next .nil⟩
 |d=>
  have h2:=lb_turn (X:=X) (D:=D) (sp:=sp) (s:=s) (e':=e') (pre:=pre) (ww:=ww||bb) (ys:=ys) (a:=a) (b:=b) (σ:=σ) .dflt
  rw[Bool.or_false]at h2
  exact⟨_,.go (by induction ht<;>rfl) (lb_turn h) .next (.go rfl h2 .next .nil)⟩
theorem Wt.le{bb:Bool}(h:Wt X D L bb)(l:D≤D'):Wt X D' L bb:=by
 induction h with
 |const=>exact .const
 |null=>exact .null
 |dflt=>exact .dflt
 |type h=>exact .type fun σ=>(h σ).le l
theorem Cfg.e1(h:Cfg r1 r2 d1 d2 R):Ds d1:=by induction h<;>constructor
theorem Cfg.e2(h:Cfg r1 r2 d1 d2 R):Ds d2:=by induction h<;>constructor
theorem LQ.wf(h:LQ X P n Q D w L):Wt X (D+1) L false:=by
 induction h with
 |const=>exact .const
 |null=>exact .null
 |type _ h=>exact .type fun σ=>h.aw
theorem LQ.tk(h:LQ X P n Q D w L)(l:D≤D'+1):TkX X P n Q (D'+2) w lo hi L:=by
 induction h with
 |const=>exact⟨fun x hx=>(tkx_const.r x hx).wide (QC _) (Qa _) (Qa _) (Qd _) (Qa _),tkx_const (X:=X) (P:=P) (n:=n) (Q:=Q) (D:=0) (lo:=0) (hi:=0).nd⟩
 |null=>exact⟨fun x hx=>(tkx_null.r x hx).wide (QC _) (Qa _) (Qa _) (Qd _) (Qa _),tkx_null (X:=X) (P:=P) (n:=n) (Q:=Q) (D:=0) (lo:=0) (hi:=0).nd⟩
 |type hl h=>exact tkx_type hl (h.wx l)
theorem lp_cfg{r1' r2':List V}(hx:rg xx)(k1:TkX X P n Q (D+1) wl lo hi L1)(k2:TkX X P n Q (D+1) wl lo hi L2)(x1:XR X P n Q D w lo hi r1 r1')(x2:XR X P n Q D w lo hi r2 r2')(h:Cfg r1 r2 d1 d2 R):LpX X P n Q (D+1) (wl+(wl+w)) lo hi xx [tsec L1 d1 r1,tsec L2 d2 r2] [tsec L1 d1 r1',tsec L2 d2 r2'] (.tup []) (.tup []):=by
 have y1:=x1.wide (w':=wl+w) (Nat.le_add_left _ _) (Qa _) (Qa _)
 induction h with
 |a=>exact lp_1 hx k1 y1 (lp_0 hx k2 x2 (lp_nil x1))
 |b=>exact lp_0 hx k1 y1 (lp_1 hx k2 x2 (lp_nil x2))
 |n=>exact lp_0 hx k1 y1 (lp_0 hx k2 x2 (lp_nil (xr_nil.wide (QC _) (Qa _) (Qa _))))
theorem gs_switch(E:Env P n)(hw:w≤100)(hj:j=0∨j < n∧j≠1∧j≠2)(h:GE X sp S P n Q D w d sl e)(q1:LQ X P n Q D wl L1)(q2:LQ X P n Q D wl L2)(g1:GR X sp S P n Q D w' r1)(g2:GR X sp S P n Q D w' r2)(hl1:r1.length≤100)(hl2:r2.length≤100)(cf:Cfg r1 r2 d1 d2 R):GS X sp S P n Q (D+20) (w+(wl+(wl+w'))) 9 (tsw e [tsec L1 d1 r1,tsec L2 d2 r2] j):=fun lo=>by
 obtain @⟨pre,c1,l1,h1,p1,p2,s,le1,x,_⟩:=h.y lo
 obtain @⟨r1',h2,a1,le2,z1⟩:=g1 h1
 obtain @⟨r2',h3,a2,le3,z2⟩:=g2 h2
 have ll:r1'.length+r2'.length≤LIM:=by rw[← z1.x.len,← z2.x.len];exact Qf (Nat.add_le_add hl1 hl2) (by decide)
 obtain⟨r,hb,wq,_⟩:=wp_ok (X:=X) (D:=D) (mk_sw (e:=.tup (.int c1::l1)) (a:=.tup (L1::d1)) (b:=.tup (L2::d2)) (l:=j) z1.tp z2.tp ll) p1 (Qf p2 hw)
 obtain⟨y1,b1⟩:=lb_all (X:=X) (D:=D+5) (sp:=sp) (s:=tsw e [tsec L1 d1 r1,tsec L2 d2 r2] j) (e':=.tup (.int c1::l1)) (pre:=pre) (ww:=false) (ys:=[]) (a:=.tup (L1::d1)) (b:=.tup r1) (σ:=S h1) (q1.wf.le (by lia)) cf.e1 .a
 obtain⟨y2,b2⟩:=lb_all (X:=X) (D:=D+5) (sp:=sp) (s:=tsw e [tsec L1 d1 r1,tsec L2 d2 r2] j) (e':=.tup (.int c1::l1)) (pre:=pre) (ww:=false) (ys:=[.tup [.tup (L1::d1),.tup r1']]) (a:=.tup (L2::d2)) (b:=.tup r2) (σ:=S h2) (q2.wf.le (by lia)) cf.e2 (.b y1)
 have q0:Runs X (D+6) 554 [sp,tsw e [tsec L1 d1 r1,tsec L2 d2 r2] j] (S lo) _:=.by 288 rfl fun q=>q _ _ _ ((s [] (lim_w hw p2)).le (by lia)) _ _ _ b1 _ _ ((rs_ok a1 (QB hl1 (by decide))).le (by lia)) _ _ _ b2 _ _ ((rs_ok a2 (QB hl2 (by decide))).le (by lia)) _ _ (r _)
 have q1':Runs X (D+7) 505 [sp,tsw e [tsec L1 d1 r1,tsec L2 d2 r2] j] (S lo) _:=.by 0 rfl fun q=>q _ _ q0
 exact⟨q1'.le (by lia),by lia,(xs_switch (D:=D+1) E ((XE.le x (by lia)).wd (Qa _) (by lia)) (fun xx hx=>lp_cfg hx (q1.tk (by lia)) (q2.tk (by lia)) (z1.x.wide (Qd _) le1 le3) (z2.x.wide (Qd _) (by lia) (Qa _)) cf) hj hb wq).le (by lia)⟩
end
inductive LW(X:Wd)(sp:V)(S:Int→Sg)(P:RP)(n:Nat)(Q:Nat→Prop)(D w:Nat):V→Bool→Prop
 |null:LW X sp S P n Q D w (.tup [.int 4]) false
 |none {k l}:l=0∨l < n∧Q l→LW X sp S P n Q D w (ttype k l .none) false
 |ge {k l e d sl b}:l=0∨l < n∧Q l→GE X sp S P n Q D w d sl e→Ha X D e b→LW X sp S P n Q D w (ttype k l e) b
inductive LwY(X:Wd)(sp:V)(S:Int→Sg)(P:RP)(n:Nat)(Q:Nat→Prop)(D w:Nat)(L:V)(i j lo:Int):Prop
 |mk {Lb q hi}:(∀σ,Runs X (D+1) 568 [L] σ (Lb,σ))→Runs X (D+6) 575 [sp,L,thold j (tc 7 i)] (S lo) (q,S hi)→Tp q→lo≤hi→
  (∀{lo' hi':Int} {wp:Nat} {pre S' st j₀ v},SX true X P n Q (D+9) gp wp lo' hi' false pre S' (Vs2 j₀ v j)→j₀ < j→lo'≤j₀→hi≤hi'→Bare st (tlab j v Lb q)→SX true X P n Q (D+9) gp (wp+(w+1)) lo' hi' false (pre++[st]) (fun b=>LkS X (D+9) (rd b P) L i (S' b)) (Vs2 j₀ v j))→LwY X sp S P n Q D w L i j lo
inductive VaY(X:Wd)(sp:V)(S:Int→Sg)(P:RP)(n:Nat)(Q:Nat→Prop)(D w:Nat)(e:V)(lo:Int)(pre:List V)(e':V)(h1:Int):Prop
 |mk {v ys j}:RunsL X (D+6) 393 [sp,e'] pre (S h1) (v,some ys,S j)→h1≤j→ys.length≤w+1→Tps ys→(∀hi',j≤hi'→SX true X P n Q (D+9) rg (w+1) lo hi' false ys (fun b=>Ev X (D+9) (rd b P) e) (Vs1 j v))→VaY X sp S P n Q D w e lo pre e' h1
section
variable {X:Wd}{sp:V}{S:Int→Sg}{P:RP}{n m:Nat}{Q Q' Q₂:Nat→Prop}{D D' w w' wl wi wt ws l l' f:Nat}{d d' b' sl b b1 b2 ww:Bool}{e e' e₂ s t u u' g v x a' L L1 L2:V}{as pre ss ts ys d1 d2 r1 r2 R:List V}{c c' ci z k lo hi i j lo' hi' h1 h2 xx:Int}{ls:List Nat}{tl:Rho}{σ:Sg}{W T:RW}
theorem SX.wup{α:Type}{j:Bool}{g:α→Prop}{S:Bool→RW→α→RW→Prop}{R:RW→α→RW→Prop}(h:SX j X P n Q D g w lo hi d pre S R)(hw:w≤w'):SX j X P n Q D g w' lo hi d pre S R:=h.wide hw (Qa _) (Qa _) (Qd _) (Qa _)
theorem LW.nd(h:LW X sp S P n Q D w L b):Nd L:=by
 induction h<;>exact⟨rfl⟩
theorem LW.wf(h:LW X sp S P n Q D w L b):Wt X (D+1) L b:=by
 induction h with
 |null=>exact .null
 |none=>exact .type fun σ=>.by 0 rfl fun q=>q
 |ge _ h ha=>exact .type fun σ=>.by 4 rfl fun q=>q true (congrArg not h.nn) _ _ (ha _)
theorem lw_y(E:Env P n)(hw:w≤100)(hi':i=0∨i=1)(hj:j≤lo)(h:LW X sp S P n Q D w L b):LwY X sp S P n Q D w L i j lo:=by
 induction h with
 |null=>exact .mk (fun σ=>.by 0 rfl fun q=>q) (.by 0 rfl fun q=>q) ⟨_,_⟩ (Qa _) fun h a1 a2 a3 hb=>SX.wup (lab_null (D:=D+4) h a1 (by lia) a2 hi' hb) (by lia)
 |none hl=>exact .mk (fun σ=>.by 0 rfl fun q=>q) (.by 0 rfl fun q=>q) ⟨_,_⟩ (Qa _) fun h a1 a2 a3 hb=>SX.wup (lab_type (D:=D+4) h a1 (by lia) a2 hi' hb hl (ak_none (D:=D+6) a1 (by lia))) (by lia)
 |ge hl h _=>
  have hn:=h.nn
  obtain @⟨pre,c1,l1,h1,p1,p2,s,le1,x,_⟩:=h.y lo
  obtain⟨q,r,hb⟩:=rowof_ok (X:=X) (D:=D+1) (p1.app (.cons ⟨4,[.tup (.int c1::l1),thold j (tc 7 i),.none]⟩ .nil)) (by rw[Qb];exact Qf (Qv (Qf p2 hw)) (by decide))
  exact .mk (fun σ=>.by 0 rfl fun q=>q) (.by 544 rfl fun q=>q false hn _ _ _ ((s [] (lim_w hw p2)).le (by lia)) (QR.mpr (Qf (Qv (Qf p2 hw)) (by decide))) _ _ (r _)) hb.tp le1 fun h a1 a2 a3 hb2=>lab_type (D:=D+4) h a1 (by lia) a2 hi' hb2 hl (ak_when (D:=D) E hn ((XE.le x (by lia)).wd hj a3) hb a1 (by lia))
theorem va_y(C:Spl X sp S)(hw:w≤100){c1:Int}{l1:List V}(p1:Tps pre)(p2:pre.length≤w)(h0:lo≤h1)(hh:h1≤h2)(x:XE X P n Q (D+1) w lo h1 d pre e (.tup (.int c1::l1)))(ha:Ha X (D+1) (.tup (.int c1::l1)) false)(hc:Ct1 e lo pre c1 l1 h1):VaY X sp S P n Q D w e lo pre (.tup (.int c1::l1)) h2:=by
 induction hc with
 | @nc k l' n1 n3 e1=>
  subst e1
  have h421:=sp_no (sp:=sp) (S:=S) (n:=h2+1) ha pre (QB (Qf p2 hw) (by decide))
  rw[QA]at h421
  exact .mk (.by 292 rfl fun q=>q false n1 false n3 (C.me _) _ _ ((C.sl _).le (by lia)) _ _ _ (h421.le (by lia)) (Qs.mpr (QB (Qf p2 hw) (by decide)))) (by lia) (by rw[Qb];exact Qv p2) (p1.app (.cons ⟨_,_⟩ .nil)) fun hi' hh=>val_s (D:=D+6) ((XE.le x (by lia)).wd (Qa _) (by lia)) (by lia) hh
 |c hr e1 e2 e3 e4=>
  subst e1 e2 e3
  rw[e4]
  exact .mk (.by 0 rfl fun q=>q) (Qa _) (QC _) .nil fun hi' _=>SX.wup (val_c (D:=D+8) hr) (QC _)
end
section
variable {X:Wd}{sp:V}{S:Int→Sg}{P:RP}{n m:Nat}{Q Q' Q₂:Nat→Prop}{D D' w w' wl wi wt ws l l' f:Nat}{d d' b' sl b b1 b2 ww:Bool}{e e' e₂ s t u u' g v x a' L L1 L2 Lb1 Lb2 q1 q2 s1 s2:V}{as pre ss ts ys d1 d2 r1 r2 r1' r2' R:List V}{c c' ci z k lo hi i j lo' hi' h1 h2 h3 xx:Int}{ls:List Nat}{tl:Rho}{σ:Sg}{W T:RW}
noncomputable abbrev pkL(ys:List V)(j:Int)(s1 s2:V):List V:=((ys++[thold j (tc 7 (-1))])++[s1])++[s2]
theorem pick_run(C:Spl X sp S)(cf:Cfg r1 r2 d1 d2 R)(n1:Nd L1)(n2:Nd L2)(h:RunsL X (D+6) 393 [sp,e'] pre (S lo) (v,some ys,S j))(hl:ys.length≤200)(b1:∀σ,Runs X (D+6) 568 [L1] σ (Lb1,σ))(k1:Runs X (D+6) 575 [sp,L1,thold (j+1) (tc 7 0)] (S (j+1)) (q1,S h2))(m1:Mk X (D+6) (tlab (j+1) v Lb1 q1) s1)
  (b2:∀σ,Runs X (D+6) 568 [L2] σ (Lb2,σ)) (k2:Runs X (D+6) 575 [sp,L2,thold (j+1) (tc 7 1)] (S h2) (q2,S h3)) (m2:Mk X (D+6) (tlab (j+1) v Lb2 q2) s2) (hw:Runs X (D+6) 484 [.flist (pkL ys (j+1) s1 s2),tsw (tslot 7 (j+1)) [tsec (tlc 0) d1 r1',tsec (tlc 1) d2 r2'] 0] (S h3) (t,S h3)):RunsL X (D+7) 561 [sp,e',.flist [tsec L1 d1 r1',tsec L2 d2 r2']] pre (S lo) (t,none,S h3):=by
 obtain⟨n1⟩:=n1
 obtain⟨n2⟩:=n2
 have l0:=Qs.mpr (QB hl (by decide:200 < LIM))
 have l1:Nat.blt (ys++[thold (j+1) (tc 7 (-1))]).length LIM=true:=Qs.mpr (by rw[Qb];exact QB (Qv hl) (by decide))
 have l2:Nat.blt ((ys++[thold (j+1) (tc 7 (-1))])++[s1]).length LIM=true:=Qs.mpr (by rw[Qb,Qb];exact QB (Qv (Qv hl)) (by decide))
 induction cf with
 |a=>exact .by 402659329 rfl fun q=>q _ _ _ h (C.me _) _ _ ((C.sl _).le (by lia)) l0 false n1 _ _ (b1 _) _ _ k1 _ _ (m1 _) l1 false n2 _ _ (b2 _) _ _ k2 _ _ (m2 _) l2 _ _ hw
 |b=>exact .by 25171969 rfl fun q=>q _ _ _ h (C.me _) _ _ ((C.sl _).le (by lia)) l0 false n1 _ _ (b1 _) _ _ k1 _ _ (m1 _) l1 false n2 _ _ (b2 _) _ _ k2 _ _ (m2 _) l2 _ _ hw
 |n=>exact .by 25171969 rfl fun q=>q _ _ _ h (C.me _) _ _ ((C.sl _).le (by lia)) l0 false n1 _ _ (b1 _) _ _ k1 _ _ (m1 _) l1 false n2 _ _ (b2 _) _ _ k2 _ _ (m2 _) l2 _ _ hw
inductive CfR(X:Wd)(P:RP)(n:Nat)(Q:Nat→Prop)(D w:Nat)(lo hi:Int)(r1' r2' d1 d2 R:List V):Prop
 |mk {R'}:Cfg r1' r2' d1 d2 R'→XR X P n Q D w lo hi R R'→CfR X P n Q D w lo hi r1' r2' d1 d2 R
theorem Cfg.rest(h:Cfg r1 r2 d1 d2 R)(x1:XR X P n Q D w lo hi r1 r1')(x2:XR X P n Q D w lo hi r2 r2'):CfR X P n Q D w lo hi r1' r2' d1 d2 R:=by
 induction h with
 |a=>exact⟨.a,x1⟩
 |b=>exact⟨.b,x2⟩
 |n=>exact⟨.n,xr_nil.wide (QC _) (Qa _) (Qa _)⟩
theorem XR.le(h:XR X P n Q D w lo hi ss ts)(l:D≤D'):XR X P n Q D' w lo hi ss ts:=⟨h.r.map l (fun h=>h.le l) fun h=>h.le l,fun W s v=>(h.stp W s v).rec fun a g z=>.mk (a.le l) g z,h.len⟩
theorem gs_pick(C:Spl X sp S)(E:Env P n)(hw:w≤90)(hwl:wl≤100)(h:GE X sp S P n Q D w d sl e)(y1:LW X sp S P n Q D wl L1 b1)(y2:LW X sp S P n Q D wl L2 b2)(hbb:(b1||b2)=true)(g1:GR X sp S P n Q D w' r1)(g2:GR X sp S P n Q D w' r2)(hl1:r1.length≤100)(hl2:r2.length≤100)(cf:Cfg r1 r2 d1 d2 R):GS X sp S P n Q (D+20) (w+1+1+(wl+1)+(wl+1)+w') 9 (tsw e [tsec L1 d1 r1,tsec L2 d2 r2] 0):=fun lo=>by
 obtain @⟨pre,c1,l1,h1,p1,p2,s,le1,x,_,hha,hct⟩:=h.y lo
 obtain @⟨r1',h2,a1,le2,z1⟩:=g1 h1
 obtain @⟨r2',h3,a2,le3,z2⟩:=g2 h2
 obtain @⟨v,ys,j0,rv,le4,ly,ty,sv⟩:=va_y (h2:=h3) C (Qf hw (by decide)) p1 p2 le1 (by lia) x hha hct
 obtain @⟨Lb1,q1,h4,c1r,k1,tq1,le5,x1⟩:=lw_y (i:=0) (j:=j0+1) (lo:=j0+1) E hwl (.inl rfl) (Qa _) y1
 obtain @⟨Lb2,q2,h5,c2r,k2,tq2,le6,x2⟩:=lw_y (i:=1) (j:=j0+1) (lo:=h4) E hwl (.inr rfl) le5 y2
 obtain @⟨s1,m1,hb1⟩:=mk_if0 (X:=X) (D:=D) (e:=.tup [.int 15,.int 1,tny (j0+1),.tup [.int 96,.int 1,v,Lb1]]) tq1
 obtain @⟨s2,m2,hb2⟩:=mk_if0 (X:=X) (D:=D) (e:=.tup [.int 15,.int 1,tny (j0+1),.tup [.int 96,.int 1,v,Lb2]]) tq2
 have ll:r1'.length+r2'.length≤LIM:=by rw[← z1.x.len,← z2.x.len];exact Qf (Nat.add_le_add hl1 hl2) (by decide)
 have tp:Tps (pkL ys (j0+1) s1 s2):=((ty.app (.cons ⟨_,_⟩ .nil)).app (.cons hb1.tp .nil)).app (.cons hb2.tp .nil)
 obtain⟨r,hb,wq,_⟩:=wp_ok (X:=X) (D:=D) (mk_sw (e:=tslot 7 (j0+1)) (a:=.tup (tlc 0::d1)) (b:=.tup (tlc 1::d2)) (l:=0) z1.tp z2.tp ll) tp (by rw[Qb,Qb,Qb];exact Qf (Nat.add_le_add_right ly 3) (Qf (Nat.add_le_add_right hw 4) (by decide)))
 have rp:=pick_run (r1:=r1) (r2:=r2) C cf y1.nd y2.nd rv (Qf ly (Qf (Qv hw) (by decide))) (fun σ=>(c1r σ).le (by lia)) k1 (fun σ=>(m1 σ).le (by lia)) (fun σ=>(c2r σ).le (by lia)) k2 (fun σ=>(m2 σ).le (by lia)) ((r _).le (by lia))
 obtain⟨v1,b1'⟩:=lb_all (X:=X) (D:=D+7) (sp:=sp) (s:=tsw e [tsec L1 d1 r1,tsec L2 d2 r2] 0) (e':=.tup (.int c1::l1)) (pre:=pre) (ww:=false) (ys:=[]) (a:=.tup (L1::d1)) (b:=.tup r1) (σ:=S h1) (y1.wf.le (by lia)) cf.e1 .a
 obtain⟨v2,b2'⟩:=lb_all (X:=X) (D:=D+7) (sp:=sp) (s:=tsw e [tsec L1 d1 r1,tsec L2 d2 r2] 0) (e':=.tup (.int c1::l1)) (pre:=pre) (ww:=false||b1) (ys:=[.tup [.tup (L1::d1),.tup r1']]) (a:=.tup (L2::d2)) (b:=.tup r2) (σ:=S h2) (y2.wf.le (by lia)) cf.e2 (.b v1)
 rw[Bool.false_or,hbb]at b2'
 rw[Bool.false_or]at b1'
 have q0:Runs X (D+8) 554 [sp,tsw e [tsec L1 d1 r1,tsec L2 d2 r2] 0] (S lo) _:=.by 288 rfl fun q=>q _ _ _ ((s [] (lim_w (Qf hw (by decide)) p2)).le (by lia)) _ _ _ b1' _ _ ((rs_ok a1 (QB hl1 (by decide))).le (by lia)) _ _ _ b2' _ _ ((rs_ok a2 (QB hl2 (by decide))).le (by lia)) _ _ _ rp
 have q1':Runs X (D+9) 505 [sp,tsw e [tsec L1 d1 r1,tsec L2 d2 r2] 0] (S lo) _:=.by 0 rfl fun q=>q _ _ q0
 have sx:=x2 (x1 (val_n (D:=D+6) (sv h5 (by lia)) (by lia) (by lia) (by lia)) (by lia) (by lia) (by lia) hb1) (by lia) (by lia) (Qa _) hb2
 have r1x:=(XR.le z1.x (by lia:D+2≤D+8)).wide (w':=w') (lo':=lo) (hi':=h5) (Qd _) le1 (by lia)
 have r2x:=(XR.le z2.x (by lia:D+2≤D+8)).wide (w':=w') (lo':=lo) (hi':=h5) (Qd _) (by lia) (by lia)
 obtain⟨cf',r3x⟩:=cf.rest r1x r2x
 exact⟨q1'.le (by lia),by lia,(xs_pick (D:=D+8) E sx y1.nd y2.nd r1x r2x r3x cf cf' hb wq).le (by lia)⟩
end
structure Gz where
 of:List V
 wi:List (Int × V)
 gr:List V
 at':Nat
 num:Int
 left:Int
noncomputable def gd(sc:List Int)(mix:Int)(G:Gz):List (Nat × V):=[(0,.flist (sc.map .int)),(1,.int G.at'),(2,.int mix),(3,.int G.num),(4,.ref 0),(5,.ref 1),(6,.ref 2),(7,.int G.left),(8,.int 16),(9,.int 17)]
noncomputable def gst(sc:List Int)(mix:Int)(G:Gz):Sg:=[.list G.of,.idict G.wi,.list G.gr,.sdict (gd sc mix G)]
section
variable {X:Wd}{D:Nat}{sc:List Int}{mix:Int}{G G':Gz}{m k:Int}{cs args:List V}
theorem any_ok(h:G.at' < 1000000000):∃v:Int,Runs X (D+1) 589 [.ref 3] (gst sc mix G) (.int v,gst sc mix {G with at':=G.at'+1}):=by
 cases h1:decide (((G.at':Nat):Int) <((sc.map V.int).length:Nat))with
 |true=>
  have hl:=Int.ofNat_lt.mp (QX h1)
  have hl':G.at' < sc.length:=Qr V.int▸hl
  have hx:(sc.map V.int)[G.at']?=some (.int sc[G.at']):=by rw[QJ,Qj hl'];rfl
  exact⟨_,.by 1280 rfl fun h=>h true h1 _ (.nth (.fl _) hx)⟩
 |false=>exact⟨_,.by 1280 rfl fun q=>q false h1 (Qs.mpr h)⟩
theorem num_ok:Runs X (D+1) 596 [.ref 3] (gst sc mix G) (.int (G.num+1),gst sc mix {G with num:=G.num+1}):=.by 0 rfl fun h=>h
theorem call_ok:Runs X (D+2) 610 [.ref 3,.int k,.flist args] (gst sc mix G) (.tup [.int 8,.int k,.none,.tup [.int 16,.int (G.num+1),.tup []],.tup args,.int 0],gst sc mix {G with num:=G.num+1}):=.by 0 rfl fun h=>h _ _ num_ok
theorem grab_ok(h:G.gr.length < LIM):Runs X (D+1) 624 [.ref 3,.tup (.tup cs::args)] (gst sc mix G) (.tup [.int 24,.int 16,.int (((G.gr++[V.tup cs]).length:Nat) - 1)],gst sc mix {G with gr:=G.gr++[.tup cs]}):=.by 16 rfl fun q=>q (Qs.mpr h)
theorem var_ok{xs:List V}(h1:G.of.length < LIM)(h2:(lookA G.wi k).getD (.tup [])=.tup xs)(h3:xs.length+1≤LIM)(h4:G.wi.length < LIM):Runs X (D+1) 603 [.ref 3,.int k] (gst sc mix G) (.int G.of.length,gst sc mix {G with of:=G.of++[.int k],wi:=storedA G.wi k (.tup (xs++[.int G.of.length]))}):=
 .by 9248 rfl fun q=>q (Qs.mpr h1) _ (by rw[show(_:V)=.tup xs from h2];exact .tups xs _ h3) (Qs.mpr h4)
end
structure GI(G:Gz):Prop where
 win:∀k:Int,∃ls:List Nat,(lookA G.wi k).getD (.tup [])=.tup (lidV ls)∧(∀l,l∈ls↔G.of[l]?=some (.int k)∧k≠0)∧ls.length≤G.of.length
 o1:G.of[1]?=some (.int 0)
 o2:G.of[2]?=some (.int 0)
 num:0≤G.num
structure Le'(G G':Gz):Prop where
 of:∃l,G'.of=G.of++l
 gr:∃l,G'.gr=G.gr++l
 num:G.num≤G'.num
noncomputable def Bn(G:Gz)(b:Nat):Prop:=G.of.length+G.gr.length+G.wi.length+G.at'+b≤10000000
structure Fin'(G:Gz)(P:RP):Prop where
 env:Env P P.of.length
 of:∃l,P.of=G.of++l
 gr:∃l,P.gr=G.gr++l
noncomputable def Qm(P:RP)(M:List Int)(q:Bool)(l:Nat):Prop:=(∃k∈M,P.of[l]?=some (.int k))∨(l=P.of.length∧q=true)
noncomputable def InS(G:Gz)(M:List Int)(vs:List Nat):Prop:=∀l∈vs,∃k∈M,G.of[l]?=some (.int k)
inductive Pg(X:Wd)(D f:Nat)(args:List V)(sc:List Int)(mix:Int)(G:Gz)(b:Nat)(Φ:V→Gz→Prop):Prop
 |mk {v G'}:Runs X D f args (gst sc mix G) (v,gst sc mix G')→Le' G G'→GI G'→Bn G' b→Φ v G'→Pg X D f args sc mix G b Φ
noncomputable abbrev EX(X:Wd)(M:List Int)(q:Bool)(D w:Nat)(d sl:Bool)(e:V)(G:Gz):Prop:=∀{sp S P},Spl X sp S→Fin' G P→GE X sp S P P.of.length (Qm P M q) D w d sl e
noncomputable abbrev NX(X:Wd)(M:List Int)(q:Bool)(D w:Nat)(d:Bool)(e:V)(G:Gz):Prop:=∀{P},Fin' G P→GN X P P.of.length (Qm P M q) D w d e
inductive AnR(X:Wd)(D:Nat)(sc:List Int)(mix:Int)(G:Gz)(b:Nat):Prop
 |mk (v:Int)(G':Gz):Runs X D 589 [.ref 3] (gst sc mix G) (.int v,gst sc mix G')→Le' G G'→GI G'→Bn G' b→AnR X D sc mix G b
inductive NuR(X:Wd)(D:Nat)(sc:List Int)(mix:Int)(G:Gz)(b:Nat):Prop
 |mk (G':Gz):Runs X D 596 [.ref 3] (gst sc mix G) (.int (G.num+1),gst sc mix G')→Le' G G'→GI G'→Bn G' b→G'.num=G.num+1→NuR X D sc mix G b
inductive ClR(X:Wd)(D:Nat)(sc:List Int)(mix:Int)(G:Gz)(b:Nat)(k:Int)(args:List V):Prop
 |mk (m:Int)(G':Gz):Runs X D 610 [.ref 3,.int k,.flist args] (gst sc mix G) (tcall k m args,gst sc mix G')→Le' G G'→GI G'→Bn G' b→ClR X D sc mix G b k args
inductive LoR(X:Wd)(D:Nat)(sc:List Int)(mix:Int)(G:Gz)(b:Nat)(vs:List Nat)(cr:List V):Prop
 |mk (l:Nat)(G':Gz):l∈vs→Runs X D 617 [.ref 3,.tup (.tup (lidV vs)::cr)] (gst sc mix G) (tloc 7 l,gst sc mix G')→Le' G G'→GI G'→Bn G' b→LoR X D sc mix G b vs cr
inductive IsLoc(vs:List Nat):V→Gz→Prop
 |mk {l G}:l∈vs→IsLoc vs (tloc 7 l) G
section
variable {X:Wd}{D f b:Nat}{sc:List Int}{mix:Int}{G G' G'':Gz}{M M':List Int}{vs:List Nat}{q d sl:Bool}{P:RP}{e v:V}{cr args:List V}{Φ Ψ:V→Gz→Prop}{l w:Nat}{k:Int}
theorem Le'.refl:Le' G G:=⟨⟨[],(QA _).symm⟩,⟨[],(QA _).symm⟩,Qa _⟩
theorem Le'.trans(a:Le' G G')(b:Le' G' G''):Le' G G'':=⟨a.of.elim fun l h=>b.of.elim fun m h2=>⟨l++m,by rw[h2,h,QN]⟩,a.gr.elim fun l h=>b.gr.elim fun m h2=>⟨l++m,by rw[h2,h,QN]⟩,QH a.num b.num⟩
theorem pre_get{α:Type}{xs ys:List α}{i:Nat}{v:α}(h:∃l,ys=xs++l)(e:xs[i]?=some v):ys[i]?=some v:=by
 obtain⟨l,rfl⟩:=h
 rw[Qp (Qc.mp e).1];exact e
theorem InS.le(h:InS G M vs)(a:Le' G G'):InS G' M vs:=fun l hl=>(h l hl).elim fun k h=>⟨k,h.1,pre_get a.of h.2⟩
theorem Fin'.le(h:Fin' G' P)(a:Le' G G'):Fin' G P:=⟨h.env,a.of.elim fun l e=>h.of.elim fun m e2=>⟨l++m,by rw[e2,e,QN]⟩,a.gr.elim fun l e=>h.gr.elim fun m e2=>⟨l++m,by rw[e2,e,QN]⟩⟩
theorem Fin'.live(h:Fin' G P)(s:InS G M vs)(hl:l∈vs):l < P.of.length∧Qm P M q l:=(s l hl).elim fun k a=>⟨(Qc.mp (pre_get h.of a.2)).1,.inl ⟨k,a.1,pre_get h.of a.2⟩⟩
theorem Fin'.scp(h:Fin' G P)(h0:0∈M):Scp P P.of.length (Qm P M q):=⟨h.env,.inl ⟨0,h0,h.env.of1⟩,.inl ⟨0,h0,h.env.of2⟩⟩
inductive IsI:V→Gz→Prop
 |mk {v:Int} {G}:IsI (.int v) G
theorem any_p(I:GI G)(hb:Bn G (b+1)):AnR X (D+1) sc mix G b:=by
 obtain⟨v,r⟩:=any_ok (X:=X) (D:=D) (sc:=sc) (mix:=mix) (G:=G) (by unfold Bn at hb;lia)
 exact⟨v,_,r,⟨⟨[],(List.append_nil _).symm⟩,⟨[],(List.append_nil _).symm⟩,Int.le_refl _⟩,⟨I.win,I.o1,I.o2,I.num⟩,by unfold Bn at hb⊢;show G.of.length+G.gr.length+G.wi.length+(G.at'+1)+b≤_;lia⟩
theorem num_p(I:GI G)(hb:Bn G b):NuR X (D+1) sc mix G b:=⟨_,num_ok,⟨⟨[],(QA _).symm⟩,⟨[],(QA _).symm⟩,by show G.num≤G.num+1;lia⟩,⟨I.win,I.o1,I.o2,by have:=I.num;show 0≤G.num+1;lia⟩,hb,rfl⟩
theorem call_p(I:GI G)(hb:Bn G b):ClR X (D+2) sc mix G b k args:=⟨_,_,call_ok,⟨⟨[],(QA _).symm⟩,⟨[],(QA _).symm⟩,by show G.num≤G.num+1;lia⟩,⟨I.win,I.o1,I.o2,by have:=I.num;show 0≤G.num+1;lia⟩,hb⟩
theorem local_p(I:GI G)(hb:Bn G (b+1))(hv:0 < vs.length)(hl:vs.length < 1000000):LoR X (D+2) sc mix G b vs cr:=by
 obtain⟨v,G',r,h1,h2,h3⟩:=any_p (X:=X) (D:=D) (sc:=sc) (mix:=mix) I hb
 have e:(lidV vs).length=vs.length:=Qr _
 have h4:v %((lidV vs).length:Int) <(lidV vs).length:=Int.emod_lt_of_pos _ (by rw[e];lia)
 have h5:0≤v %((lidV vs).length:Int):=Int.emod_nonneg _ (by rw[e];lia)
 have hd:divOk ((lidV vs).length:Int)=true:=by
  show(Nat.blt 0 (lidV vs).length&&Nat.blt (lidV vs).length 1000000000)=true
  rw[e,Qs.mpr hv,Qs.mpr (by lia)];rfl
 generalize ex:v %((lidV vs).length:Int)=x at h4 h5
 obtain⟨j,rfl⟩:=Int.eq_ofNat_of_zero_le h5
 have hj:j < vs.length:=by rw[e]at h4;lia
 have hx:(lidV vs)[j]?=some (.int (.ofNat vs[j])):=by unfold lidV;rw[List.getElem?_map,List.getElem?_eq_getElem hj];rfl
 exact⟨vs[j],G',List.getElem_mem hj,.by 48 rfl fun q=>q _ _ r hd _ (by rw[ex];exact .nth (.tup _) hx),h1,h2,h3⟩
end
section
variable {X:Wd}{D f b:Nat}{sc:List Int}{mix:Int}{G G' G'':Gz}{M M':List Int}{vs:List Nat}{q d sl:Bool}{P:RP}{e v:V}{cr args:List V}{Φ Ψ:V→Gz→Prop}{l w:Nat}{k:Int}
structure Cv(G:Gz)(M:List Int)(vs:List Nat):Prop where
 s:InS G M vs
 p:0 < vs.length
 b:vs.length≤40
 z:0∈M
theorem Cv.le(h:Cv G M vs)(a:Le' G G'):Cv G' M vs:=⟨h.s.le a,h.p,h.b,h.z⟩
theorem Cv.loc(h:Cv G M vs)(I:GI G)(hb:Bn G (b+1)):LoR X (D+2) sc mix G b vs cr:=local_p I hb h.p (QB h.b (by decide))
theorem dec_eq(a b:Int):((a==b)=true)∨((a==b)=false):=by cases a==b<;>simp
theorem int_p(c:Cv G M vs)(I:GI G)(hb:Bn G (b+4)):Pg X (D+3) 631 [.ref 3,.tup (.tup (lidV vs)::cr)] sc mix G b (EX X M q 20 2 false true):=by
 obtain⟨v,G1,r1,m1,I1,b1⟩:=any_p (X:=X) (D:=D+1) (sc:=sc) (mix:=mix) I (b:=b+3) hb
 have c1:=c.le m1
 rcases dec_eq (v % 6) 0 with n0|n0
 ·obtain⟨i,G2,r2,m2,I2,b2⟩:=any_p (X:=X) (D:=D+1) (sc:=sc) (mix:=mix) (b:=b) I1 (by unfold Bn at *;lia)
  exact .mk (.by 8 rfl fun q=>q _ _ r1 true n0 _ _ r2) (m1.trans m2) I2 b2 fun _ _=>((ge_const (D:=0) (rg_mod i)).wide (QC _)).le (by lia)
 rcases dec_eq (v % 6) 1 with n1|n1
 ·obtain⟨l,G2,hl,r2,m2,I2,b2⟩:=c1.loc (X:=X) (D:=D) (sc:=sc) (mix:=mix) (cr:=cr) I1 (b:=b) (by unfold Bn at *;lia)
  exact .mk (.by 40 rfl fun q=>q _ _ r1 false n0 true n1 _ _ r2) (m1.trans m2) I2 b2 fun _ F=>(((gn_loc (D:=0) (F.live ((c1.le m2).s) hl)).ge rfl rfl rfl).wide (QC _)).le (by lia)
 rcases dec_eq (v % 6) 2 with n2|n2
 ·obtain⟨m,G2,r2,m2,I2,b2⟩:=call_p (X:=X) (D:=D) (sc:=sc) (mix:=mix) (k:=7) (args:=[]) I1 (b:=b) (by unfold Bn at *;lia)
  exact .mk (.by 168 rfl fun q=>q _ _ r1 false n0 false n1 true n2 _ _ r2) (m1.trans m2) I2 b2 fun _ F=>((((gn_call (D:=0) (F.scp c.z) (QC _) ga_nil).ge rfl rfl rfl).wide (QC _)).calm).le (by lia)
 rcases dec_eq (v % 6) 3 with n3|n3
 ·obtain⟨l1,G2,hl1,r2,m2,I2,b2⟩:=c1.loc (X:=X) (D:=D) (sc:=sc) (mix:=mix) (cr:=cr) I1 (b:=b+2) (by unfold Bn at *;lia)
  obtain⟨l2,G3,hl2,r3,m3,I3,b3⟩:=(c1.le m2).loc (X:=X) (D:=D) (sc:=sc) (mix:=mix) (cr:=cr) I2 (b:=b+1) b2
  obtain⟨l3,G4,hl3,r4,m4,I4,b4⟩:=((c1.le m2).le m3).loc (X:=X) (D:=D) (sc:=sc) (mix:=mix) (cr:=cr) I3 (b:=b) b3
  obtain⟨m,G5,r5,m5,I5,b5⟩:=call_p (X:=X) (D:=D) (sc:=sc) (mix:=mix) (k:=7) (args:=[tloc 7 l1,.tup [.int 30,.int 7,tloc 7 l2],tloc 7 l3]) I4 b4
  have mm:=m2.trans (m3.trans (m4.trans m5))
  exact .mk (.by 680 rfl fun q=>q _ _ r1 false n0 false n1 false n2 true n3 _ _ r2 _ _ r3 _ _ r4 _ _ r5) (m1.trans mm) I5 b5 fun C F=>by
   have s:=(c1.le mm).s
   exact((ge_ftf (D:=0) C (F.scp c.z) (F.live s hl1) (F.live s hl2) (F.live s hl3)).calm.le (by lia)).slot
 ·obtain⟨l,G2,hl,r2,m2,I2,b2⟩:=c1.loc (X:=X) (D:=D) (sc:=sc) (mix:=mix) (cr:=cr) I1 (b:=b) (by unfold Bn at *;lia)
  exact .mk (.by 680 rfl fun q=>q _ _ r1 false n0 false n1 false n2 false n3 _ _ r2) (m1.trans m2) I2 b2 fun C F=>((ge_await (D:=0) C (F.scp c.z) (F.live (c1.le m2).s hl)).calm.wide (by decide)).le (by lia)
end
inductive VaR(X:Wd)(D:Nat)(sc:List Int)(mix:Int)(G:Gz)(b:Nat)(k:Int):Prop
 |mk (G':Gz):Runs X D 603 [.ref 3,.int k] (gst sc mix G) (.int (.ofNat G.of.length),gst sc mix G')→Le' G G'→GI G'→Bn G' b→G'.of=G.of++[.int k]→VaR X D sc mix G b k
inductive GrR(X:Wd)(D:Nat)(sc:List Int)(mix:Int)(G:Gz)(b:Nat)(vs:List Nat)(cr:List V)(M:List Int)(q:Bool):Prop
 |mk (f:Nat)(G':Gz):Runs X D 624 [.ref 3,.tup (.tup (lidV vs)::cr)] (gst sc mix G) (tlam f,gst sc mix G')→Le' G G'→GI G'→Bn G' b→NX X M q 20 41 false (tlam f) G'→GrR X D sc mix G b vs cr M q
inductive Wb(X:Wd)(M:List Int)(q:Bool)(e:V)(G:Gz):Prop
 |w:Ha X 20 e true→(∀σ,Runs X 1 706 [e] σ (.bool true,σ))→Wb X M q e G
 |n {d}:isNv e=false→NX X M q 20 2 d e G→(∀σ,Runs X 1 706 [e] σ (.bool false,σ))→Wb X M q e G
section
variable {X:Wd}{D f b:Nat}{sc:List Int}{mix:Int}{G G' G'':Gz}{M M':List Int}{vs:List Nat}{q d sl:Bool}{P:RP}{e v:V}{cr args:List V}{Φ Ψ:V→Gz→Prop}{l w:Nat}{k:Int}
theorem get_app{xs:List V}{v u:V}{l:Nat}:(xs++[v])[l]?=some u↔xs[l]?=some u∨(l=xs.length∧v=u):=by
 rcases Nat.lt_trichotomy l xs.length with h|h|h
 ·rw[Qp h];exact Iff.intro (fun a=>Or.inl a) (fun a=>a.elim (fun a=>a) fun a=>absurd a.1 (Nat.ne_of_lt h))
 ·subst h
  rw[Qx,QS (Qd _)]
  exact⟨fun a=>.inr ⟨rfl,Ql a⟩,fun a=>a.elim (fun a=>nomatch a) fun a=>congrArg some a.2⟩
 ·rw[QS (by rw[Qb];exact h),QS (Nat.le_of_lt h)]
  exact Iff.intro (fun a=>nomatch a) (fun a=>a.elim (fun a=>nomatch a) fun a=>absurd a.1 (Nat.ne_of_gt h))
theorem lidV_app{ls:List Nat}{l:Nat}:lidV (ls++[l])=lidV ls++[.int (.ofNat l)]:=List.map_append
theorem var_p(I:GI G)(hb:Bn G (b+2))(hk:k≠0):VaR X (D+1) sc mix G b k:=by
 obtain⟨ls,h1,h2,h3⟩:=I.win k
 have B:=hb
 unfold Bn at B
 have L:LIM=16777216:=rfl
 have hl:(lidV ls).length=ls.length:=Qr _
 refine⟨_,var_ok (G:=G) (by lia) h1 (by lia) (by lia),⟨⟨_,rfl⟩,⟨[],(QA _).symm⟩,Qa _⟩,⟨fun k'=>?_,pre_get ⟨_,rfl⟩ I.o1,pre_get ⟨_,rfl⟩ I.o2,I.num⟩,?_,rfl⟩
 ·by_cases e:k'=k
  ·subst e
   refine⟨ls++[G.of.length],?_,fun l=>?_,?_⟩
   ·show(lookA (storedA G.wi k' _) k').getD _=_
    rw[sto_self,lidV_app];rfl
   ·show l∈ls++[G.of.length]↔(G.of++[.int k'])[l]?=some (.int k')∧k'≠0
    rw[QI,Qk,get_app,h2 l]
    exact⟨fun a=>a.elim (fun a=>⟨.inl a.1,a.2⟩) fun a=>⟨.inr ⟨a,rfl⟩,hk⟩,fun a=>a.1.imp (fun b=>⟨b,a.2⟩) fun b=>b.1⟩
   ·show(ls++[G.of.length]).length≤(G.of++[V.int k']).length
    rw[Qb,Qb];exact Qv h3
  ·obtain⟨ls',g1,g2,g3⟩:=I.win k'
   refine⟨ls',?_,fun l=>?_,?_⟩
   ·show(lookA (storedA G.wi k _) k').getD _=_
    rw[sto_ne e];exact g1
   ·show l∈ls'↔(G.of++[.int k])[l]?=some (.int k')∧k'≠0
    rw[get_app,g2 l]
    exact⟨fun a=>⟨.inl a.1,a.2⟩,fun a=>⟨a.1.resolve_right fun z=>e (by have:=z.2;injection this with this;exact this.symm),a.2⟩⟩
   ·show ls'.length≤(G.of++[V.int k]).length
    rw[Qb];exact Nat.le_succ_of_le g3
 ·have:=sto_le (kvs:=G.wi) (k:=k) (r:=.tup (lidV ls++[.int G.of.length]))
  unfold Bn
  show(G.of++[V.int k]).length+G.gr.length+(storedA G.wi k (.tup (lidV ls++[.int G.of.length]))).length+G.at'+b≤10000000
  rw[Qb,Qu];lia
theorem grab_p(c:Cv G M vs)(I:GI G)(hb:Bn G (b+1)):GrR X (D+1) sc mix G b vs cr M q:=by
 have B:=hb
 unfold Bn at B
 have L:LIM=16777216:=rfl
 have r:=grab_ok (X:=X) (D:=D) (sc:=sc) (mix:=mix) (G:=G) (cs:=lidV vs) (args:=cr) (by lia)
 have e:(((G.gr++[V.tup (lidV vs)]).length:Nat):Int) - 1=.ofNat G.gr.length:=by rw[Qb,Qu];show((G.gr.length+1:Nat):Int) - 1=(G.gr.length:Int);lia
 rw[e]at r
 refine⟨_,_,r,⟨⟨[],(QA _).symm⟩,⟨_,rfl⟩,Qa _⟩,⟨I.win,I.o1,I.o2,I.num⟩,?_,fun F=>?_⟩
 ·unfold Bn
  show G.of.length+(G.gr++[V.tup (lidV vs)]).length+G.wi.length+G.at'+b≤10000000
  rw[Qb,Qu];lia
 ·exact(gn_lam (D:=0) (pre_get F.gr (Qx ..)) (fun l hl=>F.live (c.s.le ⟨⟨[],(QA _).symm⟩,⟨_,rfl⟩,Qa _⟩) hl) c.b).le (by lia)
theorem test_p(c:Cv G M vs)(I:GI G)(hb:Bn G (b+3)):Pg X (D+3) 638 [.ref 3,.tup (.tup (lidV vs)::cr)] sc mix G b fun e G'=>EX X M q 20 2 true true e G'∧Wb X M q e G':=by
 obtain⟨v,G1,r1,m1,I1,b1⟩:=any_p (X:=X) (D:=D+1) (sc:=sc) (mix:=mix) I (b:=b+2) hb
 have c1:=c.le m1
 obtain⟨l,G2,hl,r2,m2,I2,b2⟩:=c1.loc (X:=X) (D:=D) (sc:=sc) (mix:=mix) (cr:=cr) I1 (b:=b+1) b1
 have c2:=c1.le m2
 have b2':Bn G2 b:=by unfold Bn at *;lia
 rcases dec_eq (v % 3) 0 with n0|n0
 ·exact .mk (.by 8 rfl fun q=>q _ _ r1 true n0 _ _ r2) (m1.trans m2) I2 b2' ⟨fun C F=>((ge_await (D:=0) C (F.scp c.z) (F.live c2.s hl)).wide (by decide)).le (by lia),.w (ha_await (D:=19)) fun σ=>.by 0 rfl fun q=>q⟩
 rcases dec_eq (v % 3) 1 with n1|n1
 ·obtain⟨l3,G3,hl3,r3,m3,I3,b3⟩:=c2.loc (X:=X) (D:=D) (sc:=sc) (mix:=mix) (cr:=cr) I2 (b:=b) b2
  obtain⟨m,G4,r4,m4,I4,b4⟩:=call_p (X:=X) (D:=D) (sc:=sc) (mix:=mix) (k:=1) (args:=[tloc 7 l,.tup [.int 30,.int 7,tloc 7 l3]]) I3 b3
  have s:=((c2.le m3).le m4).s
  exact .mk (.by 40 rfl fun q=>q _ _ r1 false n0 _ _ r2 true n1 _ _ r3 _ _ r4) (m1.trans (m2.trans (m3.trans m4))) I4 b4 ⟨fun C F=>((ge_ft (D:=3) C (F.scp c.z) (F.live s hl) (ge_await (D:=0) C (F.scp c.z) (F.live s hl3))).slot.wide (by decide)).le (by lia),.w ((ha_call (D:=1) lim2 (.no (ha_2 (D:=0)) (.yes ha_await))).le (by lia)) fun σ=>.by 0 rfl fun q=>q⟩
 ·obtain⟨m,G4,r4,m4,I4,b4⟩:=call_p (X:=X) (D:=D) (sc:=sc) (mix:=mix) (k:=1) (args:=[tloc 7 l]) I2 b2'
  have s:=(c2.le m4).s
  have x:NX X M q 20 2 true (tcall 1 m [tloc 7 l]) G4:=fun F=>(GN.le (gn_call (D:=1) (as:=[tloc 7 l]) (F.scp (q:=q) c.z) (show 1≤LIM by decide) (ga_cons (gn_loc (D:=0) (F.live s hl)) ga_nil)) (by lia)).wide (by decide)
  exact .mk (.by 40 rfl fun q=>q _ _ r1 false n0 _ _ r2 false n1 _ _ r4) (m1.trans (m2.trans m4)) I4 b4 ⟨fun C F=>(x F).ge rfl rfl rfl,.n rfl x fun σ=>.by 0 rfl fun q=>q⟩
end
noncomputable def dd(h:Nat):Nat:=60+40*h
noncomputable def wt(h:Nat):Nat:=@Nat.rec (fun _=>Nat) 60 (fun _ b=>8*b+300) h
inductive LocI(G:Gz)(num c:Int)(l:List V):Prop
 |no:(c==2)=false→LocI G num c l
 |yes {lid e}:c=2→l=[.int (.ofNat lid),e]→G.of[lid]?=some (.int num)→LocI G num c l
noncomputable abbrev GSA(X:Wd)(M:List Int)(q:Bool)(D w:Nat)(c:Int)(s:V)(G:Gz):Prop:=∀{sp S P},Spl X sp S→Fin' G P→GS X sp S P P.of.length (Qm P M q) D w c s
inductive SOk(X:Wd)(M:List Int)(q:Bool)(h:Nat)(num:Int)(s:V)(G:Gz):Prop
 |mk {c l}:s=.tup (.int c::l)→(c==93)=false→LocI G num c l→GSA X M q (dd h) (wt h) c s G→SOk X M q h num s G
noncomputable abbrev b2i(b:Bool):Int:=@Bool.rec (fun _=>Int) 0 1 b
noncomputable abbrev cT(vs:List Nat)(num:Int)(lp q:Bool):V:=.tup [.tup (lidV vs),.int num,.int (b2i lp),.int (b2i q)]
section
variable {X:Wd}{D f b n:Nat}{sc:List Int}{mix:Int}{G G' G'':Gz}{M M':List Int}{vs:List Nat}{q lp d sl:Bool}{P:RP}{e v s sp:V}{cr args as:List V}{Φ Ψ:V→Gz→Prop}{l w:Nat}{k c num lo:Int}{S:Int→Sg}{Q:Nat→Prop}{σ:Sg}
theorem gs_same{f:V}(hc:(c==93)=false)(h6:(c==6)=false)(hf:Fv f)(h:∀b W,W.stop=false→Xs X 3 (rd b P) (.tup (.int c::as)) W f W)(r:∀lo,Runs X 3 505 [sp,.tup (.int c::as)] (S lo) (.tup (.int c::as),S lo)):GS X sp S P n Q (D+3) w c (.tup (.int c::as)):=fun lo=>
 ⟨(r lo).le (by lia),Qa _,((xs_same (D:=1) hc h6 hf h).le (by lia)).wide (QC _) (Qa _) (Qa _)⟩
theorem gs_loc0:GS X sp S P n Q (D+3) w 2 (t2 2 (.ofNat l) .none):=gs_same (f:=N0) rfl rfl .next (fun _ _ s=>x_loc0 (.same rfl) s) fun lo=>pl_2 (.by 0 rfl fun q=>q)
theorem gs_ret0:GS X sp S P n Q (D+3) w 12 (t1 12 .none):=gs_same (f:=flow 3 .none) rfl rfl .ret0 (fun _ _ s=>x_ret0 (.same rfl) s) fun lo=>pl_12 (.by 0 rfl fun q=>q)
theorem gs_brk:GS X sp S P n Q (D+3) w 10 (.tup [.int 10]):=gs_same (f:=flow 1 .none) rfl rfl .brk (fun _ _ s=>x_brk (.same rfl) s) fun lo=>.by 0 rfl fun q=>q _ _ (.by 0 rfl fun q=>q)
theorem gs_cont:GS X sp S P n Q (D+3) w 11 (.tup [.int 11]):=gs_same (f:=flow 2 .none) rfl rfl .cont (fun _ _ s=>x_cont (.same rfl) s) fun lo=>.by 0 rfl fun q=>q _ _ (.by 0 rfl fun q=>q)
theorem gs_empty:GS X sp S P n Q (D+3) w 18 (.tup [.int 18]):=gs_same (f:=N0) rfl rfl .next (fun _ _ s=>x_empty (.same rfl) s) fun lo=>.by 0 rfl fun q=>q _ _ (.by 0 rfl fun q=>q)
theorem gs_rethrow(hq:Q n):GS X sp S P n Q (D+3) w 13 (t1 13 .none):=fun lo=>
 have h:Runs X 3 505 [sp,t1 13 .none] (S lo) (t1 13 .none,S lo):=pl_13 (.by 0 rfl fun q=>q)
 ⟨h.le (by lia),Qa _,((xs_rethrow (D:=1) hq).le (by lia)).wide (QC _) (Qa _) (Qa _)⟩
theorem modn{P:Int→Prop}(v:Int)(m:Nat)(hm:0 < m)(h:∀n:Fin m,P (.ofNat n)):P (v % m):=by
 obtain⟨n,e⟩:=Int.eq_ofNat_of_zero_le (Int.emod_nonneg v (Int.ofNat_ne_zero.mpr (Nat.ne_of_gt hm)))
 exact e▸h ⟨n,Int.ofNat_lt.mp (e▸Int.emod_lt_of_pos v (Int.ofNat_lt.mpr hm))⟩
theorem m12(v:Int):v % 12=0∨v % 12=1∨v % 12=2∨v % 12=3∨v % 12=4∨v % 12=5∨v % 12=6∨v % 12=7∨v % 12=8∨v % 12=9∨v % 12=10∨v % 12=11:=modn (P:=fun x=>x=0∨x=1∨x=2∨x=3∨x=4∨x=5∨x=6∨x=7∨x=8∨x=9∨x=10∨x=11) v 12 (by decide) (by decide)
theorem bm{v m r:Int}(h:v % m=r)(hd:divOk m=true):BinR .mod (.int v) (.int m) (.int r):=h▸.mod _ _ hd
theorem GSA.up{D' w':Nat}(h:GSA X M q D w c s G)(l:D≤D')(hw:w≤w'):GSA X M q D' w' c s G:=fun C F lo=>(h C F lo).up l hw
theorem small_p(c:Cv G M vs)(hn:num∈M)(h0:num≠0)(I:GI G)(hb:Bn G (b+8)):Pg X (D+5) 645 [.ref 3,cT vs num lp q] sc mix G b (SOk X M q 0 num):=by
 obtain⟨v,G1,r1,m1,I1,b1⟩:=any_p (X:=X) (D:=D+3) (sc:=sc) (mix:=mix) I (b:=b+7) hb
 have c1:=c.le m1
 have lam:∀{m:Int},(∀G2 e,Runs X (D+4) 624 [.ref 3,cT vs num lp q] (gst sc mix G1) (e,gst sc mix G2)→Runs X (D+5) 645 [.ref 3,cT vs num lp q] (gst sc mix G) (t1 1 e,gst sc mix G2))→Pg X (D+5) 645 [.ref 3,cT vs num lp q] sc mix G b (SOk X M q 0 num):=fun{m} k=>by
  obtain⟨f,G2,r2,m2,I2,b2,x⟩:=grab_p (X:=X) (D:=D+3) (q:=q) (sc:=sc) (mix:=mix) (cr:=[.int num,.int (b2i lp),.int (b2i q)]) c1 I1 (b:=b) (by unfold Bn at *;lia)
  exact .mk (k _ _ r2) (m1.trans m2) I2 b2 (.mk rfl rfl (.no rfl) fun C F=>GSA.up (X:=X) (fun C F=>gs_expr F.env (by decide) ((x F).ge rfl rfl rfl)) (by decide) (by decide) C F)
 have aw:(∀G2 l,Runs X (D+4) 617 [.ref 3,cT vs num lp q] (gst sc mix G1) (tloc 7 l,gst sc mix G2)→Runs X (D+5) 645 [.ref 3,cT vs num lp q] (gst sc mix G) (t1 1 (.tup [.int 30,.int 7,tloc 7 l]),gst sc mix G2))→Pg X (D+5) 645 [.ref 3,cT vs num lp q] sc mix G b (SOk X M q 0 num):=fun k=>by
  obtain⟨l,G2,hl,r2,m2,I2,b2⟩:=c1.loc (X:=X) (D:=D+2) (sc:=sc) (mix:=mix) (cr:=[.int num,.int (b2i lp),.int (b2i q)]) I1 (b:=b) (by unfold Bn at *;lia)
  exact .mk (k _ _ r2) (m1.trans m2) I2 b2 (.mk rfl rfl (.no rfl) fun C F=>GSA.up (X:=X) (fun C F=>gs_aw (D:=0) C (F.scp c.z) (F.live (c1.le m2).s hl)) (by decide) (by decide) C F)
 have ee:∀{G1:Gz} {b'},Cv G1 M vs→GI G1→Bn G1 (b'+4)→∃e G2,Runs X (D+4) 631 [.ref 3,cT vs num lp q] (gst sc mix G1) (e,gst sc mix G2)∧Le' G1 G2∧GI G2∧Bn G2 b'∧EX X M q 20 2 false true e G2:=fun c1 I1 b1=>by
  obtain⟨r2,m2,I2,b2,x⟩:=int_p (X:=X) (D:=D+1) (q:=q) (sc:=sc) (mix:=mix) (cr:=[.int num,.int (b2i lp),.int (b2i q)]) c1 I1 b1
  exact⟨_,_,r2,m2,I2,b2,x⟩
 rcases m12 v with h|h|h|h|h|h|h|h|h|h|h|h
 ·exact lam (m:=0) fun _ _ r=>.by 1 rfl fun q=>q _ _ r1 _ (bm h rfl) _ _ r
 ·exact lam (m:=0) fun _ _ r=>.by 1 rfl fun q=>q _ _ r1 _ (bm h rfl) _ _ r
 ·obtain⟨l,G2,hl,r2,m2,I2,b2⟩:=c1.loc (X:=X) (D:=D+2) (sc:=sc) (mix:=mix) (cr:=[.int num,.int (b2i lp),.int (b2i q)]) I1 (b:=b+4) (by unfold Bn at *;lia)
  obtain⟨e,G3,r3,m3,I3,b3,x⟩:=ee (c1.le m2) I2 b2
  exact .mk (.by 1 rfl fun q=>q _ _ r1 _ (bm h rfl) _ _ r2 _ _ r3) (m1.trans (m2.trans m3)) I3 b3 (.mk rfl rfl (.no rfl) fun C F=>GSA.up (X:=X) (fun C F=>gs_expr F.env (by decide) (ge_asg (D:=17) (F.live ((c1.le m2).le m3).s hl) (x C F))) (by decide) (by decide) C F)
 ·obtain⟨G2,r2,m2,I2,b2,e2⟩:=var_p (X:=X) (D:=D+3) (sc:=sc) (mix:=mix) I1 (b:=b) (k:=num) (by unfold Bn at *;lia) h0
  exact .mk (.by 1 rfl fun q=>q _ _ r1 _ (bm h rfl) _ _ r2) (m1.trans m2) I2 b2 (.mk rfl rfl (.yes rfl rfl (by rw[e2];exact Qx ..)) fun C F=>GSA.up (X:=X) (fun C F=>gs_loc0 (D:=0) (w:=60)) (by decide) (by decide) C F)
 ·obtain⟨e,G2,r2,m2,I2,b2,x⟩:=ee (b':=b+2) c1 I1 (by unfold Bn at *;lia)
  obtain⟨G3,r3,m3,I3,b3,e3⟩:=var_p (X:=X) (D:=D+3) (sc:=sc) (mix:=mix) I2 (b:=b) (k:=num) b2 h0
  have lv:G3.of[G2.of.length]?=some (.int num):=by rw[e3];exact Qx ..
  exact .mk (.by 1 rfl fun q=>q _ _ r1 _ (bm h rfl) _ _ r2 _ _ r3) (m1.trans (m2.trans m3)) I3 b3 (.mk rfl rfl (.yes rfl rfl lv) fun C F=>GSA.up (X:=X) (fun C F=>gs_loc F.env (by decide) ⟨(Qc.mp (pre_get F.of lv)).1,.inl ⟨num,hn,pre_get F.of lv⟩⟩ (x C (F.le m3))) (by decide) (by decide) C F)
 ·have thr:∀{G1:Gz},Le' G G1→GI G1→Bn G1 (b+4)→(∀G2 e,Runs X (D+4) 631 [.ref 3,cT vs num lp q] (gst sc mix G1) (e,gst sc mix G2)→Runs X (D+5) 645 [.ref 3,cT vs num lp q] (gst sc mix G) (t1 13 e,gst sc mix G2))→Pg X (D+5) 645 [.ref 3,cT vs num lp q] sc mix G b (SOk X M q 0 num):=fun m1 I1 b1 k=>by
   obtain⟨e,G2,r2,m2,I2,b2,x⟩:=ee (b':=b) (c.le m1) I1 b1
   exact .mk (k _ _ r2) (m1.trans m2) I2 b2 (.mk rfl rfl (.no rfl) fun C F=>GSA.up (X:=X) (fun C F=>gs_thr F.env (by decide) (x C F)) (by decide) (by decide) C F)
  induction q with
  |false=>exact thr m1 I1 (by unfold Bn at *;lia) fun _ _ r=>.by 1 rfl fun q=>q _ _ r1 _ (bm h rfl) _ _ r
  |true=>
   obtain⟨i,G2,r2,m2,I2,b2⟩:=any_p (X:=X) (D:=D+3) (sc:=sc) (mix:=mix) I1 (b:=b+4) (by unfold Bn at *;lia)
   rcases dec_eq (i % 2) 0 with n|n
   ·exact .mk (.by 131073 rfl fun q=>q _ _ r1 _ (bm h rfl) _ _ r2 true n) (m1.trans m2) I2 (by unfold Bn at *;lia) (.mk rfl rfl (.no rfl) fun C F=>GSA.up (X:=X) (fun C F=>gs_rethrow (D:=0) (w:=60) (.inr ⟨rfl,rfl⟩)) (by decide) (by decide) C F)
   ·exact thr (m1.trans m2) I2 b2 fun _ _ r=>.by 131073 rfl fun q=>q _ _ r1 _ (bm h rfl) _ _ r2 false n _ _ r
 ·induction lp with
  |false=>exact aw fun _ _ r=>.by 1 rfl fun q=>q _ _ r1 _ (bm h rfl) _ _ r
  |true=>
   obtain⟨i,G2,r2,m2,I2,b2⟩:=any_p (X:=X) (D:=D+3) (sc:=sc) (mix:=mix) I1 (b:=b) (by unfold Bn at *;lia)
   rcases Int.emod_two_eq i with n|n
   ·exact .mk (.by 524289 rfl fun q=>q _ _ r1 _ (bm h rfl) _ _ r2 _ (by rw[n];exact .nth (.tup _) rfl)) (m1.trans m2) I2 b2 (.mk rfl rfl (.no rfl) fun C F=>GSA.up (X:=X) (fun C F=>gs_brk (D:=0) (w:=60)) (by decide) (by decide) C F)
   ·exact .mk (.by 524289 rfl fun q=>q _ _ r1 _ (bm h rfl) _ _ r2 _ (by rw[n];exact .nth (.tup _) rfl)) (m1.trans m2) I2 b2 (.mk rfl rfl (.no rfl) fun C F=>GSA.up (X:=X) (fun C F=>gs_cont (D:=0) (w:=60)) (by decide) (by decide) C F)
 ·obtain⟨i,G2,r2,m2,I2,b2⟩:=any_p (X:=X) (D:=D+3) (sc:=sc) (mix:=mix) I1 (b:=b+5) (by unfold Bn at *;lia)
  rcases dec_eq (i % 2) 0 with n|n
  ·obtain⟨j,G3,r3,m3,I3,b3⟩:=any_p (X:=X) (D:=D+3) (sc:=sc) (mix:=mix) I2 (b:=b+4) b2
   have mm:=m1.trans (m2.trans m3)
   rcases dec_eq (j % 2) 0 with n'|n'
   ·exact .mk (.by 17301505 rfl fun q=>q _ _ r1 _ (bm h rfl) _ _ r2 true n _ _ r3 true n') mm I3 (by unfold Bn at *;lia) (.mk rfl rfl (.no rfl) fun C F=>GSA.up (X:=X) (fun C F=>gs_ret0 (D:=0) (w:=60)) (by decide) (by decide) C F)
   ·obtain⟨e,G4,r4,m4,I4,b4,x⟩:=ee (b':=b) (c.le mm) I3 b3
    exact .mk (.by 17301505 rfl fun q=>q _ _ r1 _ (bm h rfl) _ _ r2 true n _ _ r3 false n' _ _ r4) (mm.trans m4) I4 b4 (.mk rfl rfl (.no rfl) fun C F=>GSA.up (X:=X) (fun C F=>gs_ret F.env (by decide) (x C F)) (by decide) (by decide) C F)
  ·obtain⟨l,G3,hl,r3,m3,I3,b3⟩:=(c1.le m2).loc (X:=X) (D:=D+2) (sc:=sc) (mix:=mix) (cr:=[.int num,.int (b2i lp),.int (b2i q)]) I2 (b:=b) (by unfold Bn at *;lia)
   exact .mk (.by 524289 rfl fun q=>q _ _ r1 _ (bm h rfl) _ _ r2 false n _ _ r3) (m1.trans (m2.trans m3)) I3 b3 (.mk rfl rfl (.no rfl) fun C F=>GSA.up (X:=X) (fun C F=>gs_aw (D:=0) C (F.scp c.z) (F.live ((c1.le m2).le m3).s hl)) (by decide) (by decide) C F)
 ·obtain⟨e,G2,r2,m2,I2,b2,x⟩:=ee (b':=b) c1 I1 (by unfold Bn at *;lia)
  exact .mk (.by 1 rfl fun q=>q _ _ r1 _ (bm h rfl) _ _ r2) (m1.trans m2) I2 b2 (.mk rfl rfl (.no rfl) fun C F=>GSA.up (X:=X) (fun C F=>gs_yield (F.scp c.z) (by decide) (x C F)) (by decide) (by decide) C F)
 ·exact aw fun _ _ r=>.by 1 rfl fun q=>q _ _ r1 _ (bm h rfl) _ _ r
 ·exact aw fun _ _ r=>.by 1 rfl fun q=>q _ _ r1 _ (bm h rfl) _ _ r
 ·obtain⟨l,G2,hl,r2,m2,I2,b2⟩:=c1.loc (X:=X) (D:=D+2) (sc:=sc) (mix:=mix) (cr:=[.int num,.int (b2i lp),.int (b2i q)]) I1 (b:=b) (by unfold Bn at *;lia)
  obtain⟨m,G3,r3,m3,I3,b3⟩:=call_p (X:=X) (D:=D+2) (sc:=sc) (mix:=mix) (k:=7) (args:=[tloc 7 l]) I2 b2
  exact .mk (.by 1 rfl fun q=>q _ _ r1 _ (bm h rfl) _ _ r2 _ _ r3) (m1.trans (m2.trans m3)) I3 b3 (.mk rfl rfl (.no rfl) fun C F=>GSA.up (X:=X) (fun C F=>gs_expr F.env (by decide) ((gn_call (D:=1) (as:=[tloc 7 l]) (F.scp c.z) (show 1≤LIM by decide) (ga_cons (gn_loc (D:=0) (F.live ((c1.le m2).le m3).s hl)) ga_nil)).ge rfl rfl rfl)) (by decide) (by decide) C F)
end
noncomputable abbrev roB:Ss:=(.cons (.asg 6 (.bop true (.cons (.cmp .gt (.var 2) (.int 0)) (.cons (.cmp .eq (.bin .mod (.call 589 (.cons (.var 0) .nil)) (.int 2)) (.int 0)) (.cons (.cmp .gt (.sub (.var 0) (.str 7)) (.int 0)) .nil)))))
  (.cons (.seti (.var 0) (.str 7) (.bin .sub (.sub (.var 0) (.str 7)) (.int 1)))
  (.cons (.asg 7 (.ite (.var 6) (.call 732 (.cons (.var 0) (.cons (.var 1) (.cons (.bin .sub (.var 2) (.int 1)) .nil)))) (.call 645 (.cons (.var 0) (.cons (.var 1) .nil)))))
  (.cons (.app 4 (.var 7))
  (.cons (.iff (.cmp .eq (.sub (.var 7) (.int 0)) (.int 2)) (.cons (.asg 1 (.bin .add (.tup (.cons (.bin .add (.sub (.var 1) (.int 0)) (.tup (.cons (.sub (.var 7) (.int 1)) .nil))) .nil)) (.frm (.var 1) (.int 1))))
  .nil) .nil)
  .nil)))))
noncomputable def cs(h:Nat):Nat:=@Nat.rec (fun _=>Nat) 8 (fun _ b=>8*b+100) h
noncomputable def dg(h:Nat):Nat:=10+10*h
noncomputable abbrev lf(G:Gz):Gz:={G with left:=G.left - 1}
inductive TlR:Rho→Prop
 |a:TlR []
 |b (x y):TlR [(6,.v x),(7,.v y)]
noncomputable abbrev roR(vs:List Nat)(num:Int)(lp q:Bool)(deep c3:V)(ys:List V)(at':V)(tl:Rho):Rho:=(0,.v (.ref 3))::(1,.v (cT vs num lp q))::(2,.v deep)::(3,.v c3)::(4,.o ys)::(5,.v at')::tl
inductive StY(X:Wd)(D:Nat)(sc:List Int)(mix:Int)(G:Gz)(b:Nat)(M:List Int)(q lp:Bool)(h:Nat)(num:Int)(vs:List Nat)(f:Nat)(args:List V):Prop
 |mk {s G'}:Runs X D f (.ref 3::cT vs num lp q::args) (gst sc mix G) (s,gst sc mix G')→Le' G G'→GI G'→Bn G' b→SOk X M q h num s G'→StY X D sc mix G b M q lp h num vs f args
inductive TurnY(X:Wd)(D:Nat)(sc:List Int)(mix:Int)(G:Gz)(b:Nat)(M:List Int)(q lp:Bool)(h:Nat)(num:Int)(vs:List Nat)(deep c3:V)(ys:List V)(at':V)(tl:Rho):Prop
 |mk {s G' vs' x}:OkB X D roB (roR vs num lp q deep c3 ys at' tl) (gst sc mix G) (.next,roR vs' num lp q deep c3 (ys++[s]) at' [(6,.v x),(7,.v s)],gst sc mix G')→Le' G G'→GI G'→Bn G' b→SOk X M q h num s G'→Cv G' M vs'→vs'.length≤vs.length+1→TurnY X D sc mix G b M q lp h num vs deep c3 ys at' tl
section
variable {X:Wd}{D f b n h:Nat}{sc:List Int}{mix:Int}{G G1 G2 G' G'':Gz}{M M':List Int}{vs:List Nat}{q lp d sl:Bool}{P:RP}{e v s sp deep c3 at':V}{cr args as ys:List V}{l w lid:Nat}{k c num lo i:Int}{S:Int→Sg}{tl:Rho}
theorem GI.lf(I:GI G):GI (lf G):=⟨I.win,I.o1,I.o2,I.num⟩
theorem Le'.lf:Le' G (lf G):=⟨⟨[],(QA _).symm⟩,⟨[],(QA _).symm⟩,Qa _⟩
theorem cT_app:(.tup [.tup (lidV vs++[.int (.ofNat lid)]),.int num,.int (b2i lp),.int (b2i q)]:V)=cT (vs++[lid]) num lp q:=by show _=V.tup [.tup (lidV (vs++[lid])),_,_,_];rw[lidV_app]
theorem Cv.add(c:Cv G M vs)(h:G.of[lid]?=some (.int num))(hn:num∈M)(hl:vs.length+1≤40):Cv G M (vs++[lid]):=⟨fun l hl=>(QI.mp hl).elim (c.s l) fun e=>Qk.mp e▸⟨num,hn,h⟩,by rw[Qb];exact Nat.succ_pos _,by rw[Qb];exact hl,c.z⟩
theorem turn_c(hn:num∈M)(c:Cv G M vs)(hv:vs.length+1≤40)(hG:Le' G G1)(r:StY X D sc mix G1 b M q lp h num vs f args)
  (k1:∀{c as G2},(c==2)=false→Runs X D f (.ref 3::cT vs num lp q::args) (gst sc mix G1) (.tup (.int c::as),gst sc mix G2)→∃x,OkB X D roB (roR vs num lp q deep c3 ys at' tl) (gst sc mix G) (.next,roR vs num lp q deep c3 (ys++[.tup (.int c::as)]) at' [(6,.v x),(7,.v (.tup (.int c::as)))],gst sc mix G2))
  (k2:∀{lid:Nat} {e G2},Nat.ble ((lidV vs).length+1) LIM=true→Runs X D f (.ref 3::cT vs num lp q::args) (gst sc mix G1) (.tup [.int 2,.int (.ofNat lid),e],gst sc mix G2)→∃x,OkB X D roB (roR vs num lp q deep c3 ys at' tl) (gst sc mix G) (.next,(0,.v (.ref 3))::(1,.v (.tup [.tup (lidV vs++[.int (.ofNat lid)]),.int num,.int (b2i lp),.int (b2i q)]))::(2,.v deep)::(3,.v c3)::(4,.o (ys++[.tup [.int 2,.int (.ofNat lid),e]]))::(5,.v at')::[(6,.v x),(7,.v (.tup [.int 2,.int (.ofNat lid),e]))],gst sc mix G2)):TurnY X D sc mix G b M q lp h num vs deep c3 ys at' tl:=by
 obtain⟨r,m,I,bb,so⟩:=r
 have mm:=hG.trans m
 obtain⟨e1,h1,li,gs⟩:=so
 subst e1
 induction li with
 |no h2=>obtain⟨x,ok⟩:=k1 h2 r;exact .mk ok mm I bb (.mk rfl h1 (.no h2) gs) (c.le mm) (Qn _)
 |yes e2 e3 lv=>
  subst e2 e3
  obtain⟨x,ok⟩:=k2 (by unfold lidV;rw[List.length_map];exact Nat.ble_eq.mpr (Nat.le_trans hv (by decide))) r
  rw[cT_app]at ok
  exact .mk ok mm I bb (.mk rfl h1 (.yes rfl rfl lv) gs) ((c.le mm).add lv hn hv) (by rw[Qb];exact Qd _)
theorem wt_s:wt (h+1)=8*wt h+300:=rfl
theorem cs_s:cs (h+1)=8*cs h+100:=rfl
theorem SOk.up{h':Nat}(x:SOk X M q h num s G)(hh:h≤h'):SOk X M q h' num s G:=by
 obtain⟨a,b,c,g⟩:=x
 have hw:wt h≤wt h':=by
  induction hh with
  |refl=>exact Qd _
  |step _ ih=>exact Qf ih (by rw[wt_s];lia)
 exact .mk a b c fun C F=>GSA.up g (by unfold dd;lia) hw C F
theorem turn_0(ht:TlR tl)(hn:num∈M)(h0:num≠0)(c:Cv G M vs)(hv:vs.length+1≤40)(hl:ys.length < 100)(I:GI G)(hb:Bn G (b+8)):TurnY X (D+5) sc mix G b M q lp 0 num vs (.int (.ofNat 0)) c3 ys at' tl:=by
 obtain⟨r,m,I2,b2,so⟩:=small_p (X:=X) (D:=D) (sc:=sc) (mix:=mix) (q:=q) (lp:=lp) (c.le .lf) hn h0 I.lf (b:=b) hb
 have l0:=Qs.mpr (Nat.lt_trans hl (by decide:100 < LIM))
 exact turn_c (args:=[]) (f:=645) hn c hv .lf (.mk r m I2 b2 so)
  (fun h1 r=>by cases ht<;>exact⟨_,.by 9216 fun q=>q _ _ r l0 false h1⟩) fun h1 r=>by cases ht<;>exact⟨_,.by 132096 fun q=>q _ _ r l0 h1⟩
noncomputable abbrev BigH(X:Wd)(h:Nat):Prop:=∀{sc mix G b M q lp num vs},num∈M→num≠0→(∀m∈M,m≤G.num)→Cv G M vs→vs.length+7*(h+1)+6≤40→GI G→Bn G (b+cs (h+1))→StY X (dg h+9) sc mix G b M q lp (h+1) num vs 732 [.int (.ofNat h)]
theorem decp:decide (Int.ofNat (h+1) > 0)=true:=QZ (by show(0:Int) <((h+1:Nat):Int);lia)
theorem ofn:Int.ofNat (h+1) - 1=.ofNat h:=by show((h+1:Nat):Int) - 1=(h:Int);lia
theorem turn_b(B:BigH X h)(ht:TlR tl)(hn:num∈M)(h0:num≠0)(hm:∀m∈M,m≤G.num)(c:Cv G M vs)(hv:vs.length+7*(h+1)+6≤40)(hl:ys.length < 100)(I:GI G)(hb:Bn G (b+cs (h+1)+1)):TurnY X (dg h+9) sc mix G b M q lp (h+1) num vs (.int (.ofNat (h+1))) c3 ys at' tl:=by
 have l0:=Qs.mpr (Nat.lt_trans hl (by decide:100 < LIM))
 obtain⟨v,G1,r1,m1,I1,b1⟩:=any_p (X:=X) (D:=dg h+8) (sc:=sc) (mix:=mix) I (b:=b+cs (h+1)) hb
 have cc:=(c.le m1).le .lf
 have sm:StY X (dg h+9) sc mix (lf G1) b M q lp (h+1) num vs 645 []:=by
  obtain⟨r,m,I2,b2,so⟩:=small_p (X:=X) (D:=dg h+4) (sc:=sc) (mix:=mix) (q:=q) (lp:=lp) cc hn h0 I1.lf (b:=b) (by have:=cs_s (h:=h);unfold Bn at *;show G1.of.length+G1.gr.length+G1.wi.length+G1.at'+_≤_;lia)
  exact .mk r m I2 b2 (so.up (QC _))
 rcases dec_eq (v % 2) 0 with ve|vo
 ·cases lt:decide (G1.left > 0)with
  |true=>
   obtain⟨r,m,I2,b2,so⟩:=B (sc:=sc) (mix:=mix) (G:=lf G1) (b:=b) (q:=q) (lp:=lp) hn h0 (fun m hm'=>QH (hm m hm') m1.num) cc hv I1.lf b1
   rw[← ofn]at r
   exact turn_c (f:=732) hn c (by lia) (m1.trans .lf) (.mk r m I2 b2 so)
    (fun h1 r=>by cases ht<;>exact⟨_,.by 4784260 fun q=>q true decp _ _ r1 true ve true lt _ _ r l0 false h1⟩) fun h1 r=>by cases ht<;>exact⟨_,.by 67698820 fun q=>q true decp _ _ r1 true ve true lt _ _ r l0 h1⟩
  |false=>
   exact turn_c (args:=[]) (f:=645) hn c (by lia) (m1.trans .lf) sm
    (fun h1 r=>by cases ht<;>exact⟨_,.by 1245316 fun q=>q true decp _ _ r1 true ve false lt _ _ r l0 false h1⟩) fun h1 r=>by cases ht<;>exact⟨_,.by 16973956 fun q=>q true decp _ _ r1 true ve false lt _ _ r l0 h1⟩
 ·exact turn_c (args:=[]) (f:=645) hn c (by lia) (m1.trans .lf) sm
   (fun h1 r=>by cases ht<;>exact⟨_,.by 311428 fun q=>q true decp _ _ r1 false vo false vo _ _ r l0 false h1⟩) fun h1 r=>by cases ht<;>exact⟨_,.by 4243588 fun q=>q true decp _ _ r1 false vo false vo _ _ r l0 h1⟩
end
noncomputable abbrev TurnH(X:Wd)(h:Nat):Prop:=∀{sc mix G b M q lp num vs c3 ys at' tl},TlR tl→num∈M→num≠0→(∀m∈M,m≤G.num)→Cv G M vs→vs.length+7*(h+1)≤40→ys.length < 100→GI G→Bn G (b+cs h+1)→TurnY X (9+10*h) sc mix G b M q lp h num vs (.int (.ofNat h)) c3 ys at' tl
inductive R1(X:Wd)(D:Nat)(sc:List Int)(mix:Int)(G:Gz)(b:Nat)(M:List Int)(q lp:Bool)(h:Nat)(num:Int)(vs:List Nat):Prop
 |mk {s G'}:Runs X D 652 [.ref 3,cT vs num lp q,.int (.ofNat h),.int 1] (gst sc mix G) (.flist [s],gst sc mix G')→Le' G G'→GI G'→Bn G' b→SOk X M q h num s G'→R1 X D sc mix G b M q lp h num vs
inductive R2(X:Wd)(D:Nat)(sc:List Int)(mix:Int)(G:Gz)(b:Nat)(M:List Int)(q lp:Bool)(h:Nat)(num:Int)(vs:List Nat):Prop
 |mk {s s' G'}:Runs X D 652 [.ref 3,cT vs num lp q,.int (.ofNat h),.int 2] (gst sc mix G) (.flist [s,s'],gst sc mix G')→Le' G G'→GI G'→Bn G' b→SOk X M q h num s G'→SOk X M q h num s' G'→R2 X D sc mix G b M q lp h num vs
inductive BlY(X:Wd)(D:Nat)(sc:List Int)(mix:Int)(G:Gz)(b:Nat)(M:List Int)(q:Bool)(h:Nat)(f:Nat)(args:List V):Prop
 |mk {s G'}:Runs X D f args (gst sc mix G) (s,gst sc mix G')→Le' G G'→GI G'→Bn G' b→GSA X M q (dd h+8) (2*wt h) 3 s G'→BlY X D sc mix G b M q h f args
section
variable {X:Wd}{D f b n h:Nat}{sc:List Int}{mix:Int}{G G1 G2 G' G'':Gz}{M M':List Int}{vs:List Nat}{q lp d sl:Bool}{P:RP}{e v s sp deep c3 at':V}{cr args as ys:List V}{l w lid:Nat}{k c num lo i:Int}{S:Int→Sg}{tl:Rho}
theorem turnH_0:TurnH X 0:=fun ht hn h0 _ c hv hl I hb=>turn_0 (D:=4) ht hn h0 c (by lia) hl I (by have e:cs 0=8:=rfl;rw[e]at hb;unfold Bn at *;lia)
theorem turnH_s(B:BigH X h):TurnH X (h+1):=fun{sc mix G b M q lp num vs c3 ys at' tl} ht hn h0 hm c hv hl I hb=>by
 have e:9+10*(h+1)=dg h+9:=by unfold dg;lia
 rw[e]
 exact turn_b B ht hn h0 hm c (by lia) hl I hb
theorem SOk.le(x:SOk X M q h num s G)(a:Le' G G'):SOk X M q h num s G':=by
 obtain⟨e,h1,li,g⟩:=x
 exact .mk e h1 (by
  induction li with
  |no h=>exact .no h
  |yes e1 e2 lv=>exact .yes e1 e2 (pre_get a.of lv)) fun C F=>g C (F.le a)
theorem rows_1(T:TurnH X h)(hn:num∈M)(h0:num≠0)(hm:∀m∈M,m≤G.num)(c:Cv G M vs)(hv:vs.length+7*(h+1)≤40)(I:GI G)(hb:Bn G (b+cs h+1)):R1 X (10+10*h) sc mix G b M q lp h num vs:=by
 obtain⟨t,m,I2,b2,so,_,_⟩:=T (sc:=sc) (mix:=mix) (q:=q) (lp:=lp) (c3:=.int 1) (ys:=[]) (at':=.int 0) .a hn h0 hm c hv (by decide) I hb
 have r:Runs X (9+10*h+1) 652 [.ref 3,cT vs num lp q,.int (.ofNat h),.int 1] (gst sc mix G) _:=.by 4 rfl fun q=>q _ _ _ (.go rfl t .next .nil)
 exact .mk (r.le (by lia)) m I2 b2 so
theorem rows_2(T:TurnH X h)(hn:num∈M)(h0:num≠0)(hm:∀m∈M,m≤G.num)(c:Cv G M vs)(hv:vs.length+7*(h+1)+1≤40)(I:GI G)(hb:Bn G (b+2*(cs h+1))):R2 X (10+10*h) sc mix G b M q lp h num vs:=by
 obtain @⟨s1,G1,vs1,x1,t1,m1,I1,b1,so1,c1,l1⟩:=T (sc:=sc) (mix:=mix) (b:=b+cs h+1) (q:=q) (lp:=lp) (c3:=.int 2) (ys:=[]) (at':=.int 0) .a hn h0 hm c (by lia) (by decide) I (by unfold Bn at *;lia)
 obtain⟨t2,m2,I2,b2,so2,_,_⟩:=T (sc:=sc) (mix:=mix) (b:=b) (q:=q) (lp:=lp) (c3:=.int 2) (ys:=[s1]) (at':=.int 1) (.b x1 s1) hn h0 (fun m hm'=>QH (hm m hm') m1.num) c1 (by lia) (show 1 < 100 by decide) I1 b1
 have r:Runs X (9+10*h+1) 652 [.ref 3,cT vs num lp q,.int (.ofNat h),.int 2] (gst sc mix G) _:=.by 4 rfl fun q=>q _ _ _ (.go rfl t1 .next (.go rfl t2 .next .nil))
 exact .mk (r.le (by lia)) (m1.trans m2) I2 b2 (so1.le m2) so2
theorem qm_in{a:Nat}(hk:k≠0)(h:Qm P (k::M) q a):Qm P M q a∨P.of[a]?=some (.int k)∧k≠0:=by
 rcases h with⟨j,hj,e⟩|h
 ·rcases Qt.mp hj with rfl|hj
  ·exact .inr ⟨e,hk⟩
  ·exact .inl (.inl ⟨j,hj,e⟩)
 ·exact .inl (.inr h)
theorem qm_up{a:Nat}(h:Qm P M q a):Qm P (k::M) q a:=h.imp (fun⟨j,hj,e⟩=>⟨j,Qg _ hj,e⟩) fun h=>h
theorem Cv.in(c:Cv G M vs):Cv G (k::M) vs:=⟨fun l hl=>(c.s l hl).elim fun j h=>⟨j,Qg _ h.1,h.2⟩,c.p,c.b,Qg _ c.z⟩
theorem SOk.gs(x:SOk X M q h num s G)(C:Spl X sp S)(F:Fin' G P):∃c as,s=.tup (.int c::as)∧(c==93)=false∧GS X sp S P P.of.length (Qm P M q) (58+40*h+2) (wt h) c s:=by
 obtain⟨e,h1,_,g⟩:=x
 exact⟨_,_,e,h1,fun lo=>(g C F lo).up (by unfold dd;lia) (Nat.le_refl _)⟩
theorem block_p(T:TurnH X h)(hm:∀m∈M,m≤G.num)(c:Cv G M vs)(hv:vs.length+7*(h+1)+1≤40)(I:GI G)(hb:Bn G (b+2*(cs h+1)+1)):BlY X (11+10*h) sc mix G b M q h 659 [.ref 3,cT vs num lp q,.int (.ofNat h)]:=by
 obtain⟨G1,r1,m1,I1,b1,e1⟩:=num_p (X:=X) (D:=9+10*h) (sc:=sc) (mix:=mix) I hb
 obtain⟨v,G2,r2,m2,I2,b2⟩:=any_p (X:=X) (D:=9+10*h) (sc:=sc) (mix:=mix) I1 (b:=b+2*(cs h+1)) b1
 have hk:G.num+1≠0:=by have:=I.num;lia
 have hm2:∀m∈(G.num+1)::M,m≤G2.num:=fun m hx=>QH ((Qt.mp hx).elim (fun e=>by rw[e,e1];exact Qa _) fun hx=>QH (hm m hx) m1.num) m2.num
 have cc:Cv G2 ((G.num+1)::M) vs:=((c.le m1).le m2).in
 have r1:=r1.le (by lia:9+10*h+1≤10+10*h)
 have r2:=r2.le (by lia:9+10*h+1≤10+10*h)
 rcases Int.emod_two_eq v with n|n
 ·obtain⟨r3,m3,I3,b3,so⟩:=rows_1 (sc:=sc) (mix:=mix) (q:=q) (lp:=lp) (b:=b) T List.mem_cons_self hk hm2 cc (by lia) I2 (by unfold Bn at *;lia)
  have so':=so
  obtain @⟨c,as,e,h1,li,g⟩:=so
  subst e
  cases h6:c==6 with
  |true=>
   have rr:Runs X (10+10*h+1) 659 [.ref 3,cT vs num lp q,.int (.ofNat h)] (gst sc mix G) _:=.by 4104 rfl fun q=>q _ _ r1 _ _ r2 _ (bm n rfl) _ _ r3 true h6
   exact .mk (rr.le (by lia)) (m1.trans (m2.trans m3)) I3 b3 fun C F=>fun lo=>by
    obtain⟨_,_,e,_,g⟩:=so'.gs C F
    exact(gs_block (D:=58+40*h) (k:=G.num+1) (ss:=[.tup [.int 18],.tup (.int c::as)]) F.env (fun _=>qm_in hk) (fun _=>qm_up) rfl (show 2≤100 by decide) (List.cons_ne_nil _ _) (gr_cons (c:=18) (fun lo=>(gs_empty (D:=0) (w:=wt h) lo).up (by lia) (Nat.le_refl _)) (gr_cons g gr_nil)) lo).up (by unfold dd;lia) (by lia)
  |false=>
   have rr:Runs X (10+10*h+1) 659 [.ref 3,cT vs num lp q,.int (.ofNat h)] (gst sc mix G) _:=.by 4104 rfl fun q=>q _ _ r1 _ _ r2 _ (bm n rfl) _ _ r3 false h6
   exact .mk (rr.le (by lia)) (m1.trans (m2.trans m3)) I3 b3 fun C F=>fun lo=>(gs_block1 (D:=58+40*h) (k:=G.num+1) F.env (fun _=>qm_in hk) (fun _=>qm_up) h6 h1 (fun lo=>(g C F lo).up (by unfold dd;lia) (Nat.le_refl _)) lo).up (by unfold dd;lia) (by lia)
 ·obtain⟨r3,m3,I3,b3,so1,so2⟩:=rows_2 (sc:=sc) (mix:=mix) (q:=q) (lp:=lp) (b:=b) T Qe hk hm2 cc (by lia) I2 b2
  have rr:Runs X (10+10*h+1) 659 [.ref 3,cT vs num lp q,.int (.ofNat h)] (gst sc mix G) _:=.by 8 rfl fun q=>q _ _ r1 _ _ r2 _ (bm n rfl) _ _ r3
  exact .mk (rr.le (by lia)) (m1.trans (m2.trans m3)) I3 b3 fun C F=>fun lo=>by
   obtain⟨_,_,_,_,g1⟩:=so1.gs C F
   obtain⟨_,_,_,_,g2⟩:=so2.gs C F
   exact(gs_block (D:=58+40*h) (k:=G.num+1) (ss:=[_,_]) F.env (fun _=>qm_in hk) (fun _=>qm_up) rfl (show 2≤100 by decide) (List.cons_ne_nil _ _) (gr_cons g1 (gr_cons g2 gr_nil)) lo).up (by unfold dd;lia) (by lia)
end
section
variable {X:Wd}{D f b n h:Nat}{sc:List Int}{mix:Int}{G G1 G2 G' G'':Gz}{M M':List Int}{vs:List Nat}{q lp d sl:Bool}{P:RP}{e v s sp deep c3 at':V}{cr args as ys:List V}{l w lid:Nat}{k c num lo i:Int}{S:Int→Sg}{tl:Rho}{σ:Sg}
theorem loop_0(hv:vs.length≤40):Runs X (D+1) 666 [cT vs num lp q,.tup []] σ (cT vs num true q,σ):=by
 have r:Runs X (D+1) 666 [cT vs num lp q,.tup []] σ (.tup [.tup (lidV vs++[]),.int num,.int 1,.int (b2i q)],σ):=.by 4 rfl fun q=>q (Nat.ble_eq.mpr (by unfold lidV;rw[List.length_map];exact Nat.le_trans hv (by decide)))
 rw[QA]at r
 exact r
theorem loop_1(hv:vs.length+1≤40):Runs X (D+1) 666 [cT vs num lp q,.tup [.int (.ofNat lid)]] σ (cT (vs++[lid]) num true q,σ):=by
 have r:Runs X (D+1) 666 [cT vs num lp q,.tup [.int (.ofNat lid)]] σ (.tup [.tup (lidV vs++[.int (.ofNat lid)]),.int num,.int 1,.int (b2i q)],σ):=.by 4 rfl fun q=>q (Nat.ble_eq.mpr (by unfold lidV;rw[List.length_map];exact Nat.le_trans hv (by decide)))
 exact cT_app (lp:=true)▸r
theorem m10(v:Int):v % 10=0∨v % 10=1∨v % 10=2∨v % 10=3∨v % 10=4∨v % 10=5∨v % 10=6∨v % 10=7∨v % 10=8∨v % 10=9:=modn (P:=fun x=>x=0∨x=1∨x=2∨x=3∨x=4∨x=5∨x=6∨x=7∨x=8∨x=9) v 10 (by decide) (by decide)
theorem sok(hc:(c==93)=false)(h2:(c==2)=false)(g:GSA X M q (dd h+38) w c (.tup (.int c::as)) G)(hw:w≤wt (h+1)):SOk X M q (h+1) num (.tup (.int c::as)) G:=.mk rfl hc (.no h2) fun C F=>GSA.up g (by unfold dd;lia) hw C F
structure BigI(X:Wd)(h:Nat)(G:Gz)(M:List Int)(num:Int)(vs:List Nat):Prop where
 T:TurnH X h
 hw:wt h≤400000
 hm:∀m∈M,m≤G.num
 c:Cv G M vs
 hv:vs.length+7*(h+1)+1≤40
 I:GI G
theorem BigI.le(B:BigI X h G M num vs)(a:Le' G G')(I:GI G'):BigI X h G' M num vs:=⟨B.T,B.hw,fun m hm=>QH (B.hm m hm) a.num,B.c.le a,B.hv,I⟩
theorem BigI.blk(B:BigI X h G M num vs)(hb:Bn G (b+2*(cs h+1)+1)):BlY X (11+10*h) sc mix G b M q h 659 [.ref 3,cT vs k lp q,.int (.ofNat h)]:=block_p B.T B.hm B.c B.hv B.I hb
theorem big_if(B:BigI X h G M num vs){v:Int}{G1:Gz}(r1:Runs X (dg h+8) 589 [.ref 3] (gst sc mix G) (.int v,gst sc mix G1))(hv0:v % 10=0)(m1:Le' G G1)(I1:GI G1)(b1:Bn G1 (b+8*cs h+99)):StY X (dg h+9) sc mix G b M q lp (h+1) num vs 732 [.int (.ofNat h)]:=by
 have B1:=B.le m1 I1
 obtain @⟨t,G2,r2,m2,I2,b2,x,_⟩:=test_p (X:=X) (D:=11+10*h) (q:=q) (sc:=sc) (mix:=mix) (cr:=[.int num,.int (b2i lp),.int (b2i q)]) B1.c I1 (b:=b+8*cs h+96) b1
 have B2:=B1.le m2 I2
 obtain @⟨s1,G3,r3,m3,I3,b3,x1⟩:=B2.blk (sc:=sc) (mix:=mix) (q:=q) (lp:=lp) (k:=num) (b:=b+6*cs h+90) (by unfold Bn at *;lia)
 have B3:=B2.le m3 I3
 obtain⟨i,G4,r4,m4,I4,b4⟩:=any_p (X:=X) (D:=dg h+7) (sc:=sc) (mix:=mix) I3 (b:=b+6*cs h+80) (by unfold Bn at *;lia)
 have B4:=B3.le m4 I4
 have mm:=m1.trans (m2.trans (m3.trans m4))
 have r2:=r2.le (by unfold dg;lia:11+10*h+3≤dg h+8)
 have r3:=r3.le (by unfold dg;lia:11+10*h≤dg h+8)
 cases hi:(i % 2 != 0)with
 |true=>
  obtain @⟨s2,G5,r5,m5,I5,b5,x2⟩:=B4.blk (sc:=sc) (mix:=mix) (q:=q) (lp:=lp) (k:=num) (b:=b) (by unfold Bn at *;lia)
  have r5:=r5.le (by unfold dg;lia:11+10*h≤dg h+8)
  exact .mk (.by 65 rfl fun q=>q _ _ r1 _ (bm hv0 rfl) _ _ r2 _ _ r3 _ _ r4 true hi _ _ r5) (mm.trans m5) I5 b5 (sok rfl rfl (GSA.up (X:=X) (fun C F=>gs_if1 (D:=dd h+8) F.env (by decide) ((x C (F.le (m3.trans (m4.trans m5)))).le (by unfold dd;lia)) (x1 C (F.le (m4.trans m5))) (x2 C F)) (by lia) (Nat.le_refl _)) (by rw[wt_s];lia))
 |false=>exact .mk (.by 65 rfl fun q=>q _ _ r1 _ (bm hv0 rfl) _ _ r2 _ _ r3 _ _ r4 false hi) mm I4 (by unfold Bn at *;lia) (sok rfl rfl (GSA.up (X:=X) (fun C F=>gs_if0 (D:=dd h+8) F.env (by decide) ((x C (F.le (m3.trans m4))).le (by unfold dd;lia)) (x1 C (F.le m4))) (by lia) (Nat.le_refl _)) (by rw[wt_s];lia))
theorem big_while(B:BigI X h G M num vs){v:Int}{G1:Gz}(r1:Runs X (dg h+8) 589 [.ref 3] (gst sc mix G) (.int v,gst sc mix G1))(hv0:v % 10=1)(m1:Le' G G1)(I1:GI G1)(b1:Bn G1 (b+8*cs h+99)):StY X (dg h+9) sc mix G b M q lp (h+1) num vs 732 [.int (.ofNat h)]:=by
 have B1:=B.le m1 I1
 obtain @⟨t,G2,r2,m2,I2,b2,x,_⟩:=test_p (X:=X) (D:=11+10*h) (q:=q) (sc:=sc) (mix:=mix) (cr:=[.int num,.int (b2i lp),.int (b2i q)]) B1.c I1 (b:=b+8*cs h+96) b1
 have B2:=B1.le m2 I2
 obtain @⟨s1,G3,r3,m3,I3,b3,x1⟩:=B2.blk (sc:=sc) (mix:=mix) (q:=q) (lp:=true) (k:=num) (b:=b) (by unfold Bn at *;lia)
 have r2:=r2.le (by unfold dg;lia:11+10*h+3≤dg h+8)
 have r3:=r3.le (by unfold dg;lia:11+10*h≤dg h+8)
 exact .mk (.by 1 rfl fun q=>q _ _ r1 _ (bm hv0 rfl) _ _ r2 _ _ (loop_0 B.c.b) _ _ r3) (m1.trans (m2.trans m3)) I3 b3 (sok rfl rfl (GSA.up (X:=X) (fun C F=>gs_while (D:=dd h+8) F.env (by decide) (by have:=B.hw;lia) ((x C (F.le m3)).le (by unfold dd;lia)) (x1 C F)) (by lia) (Nat.le_refl _)) (by rw[wt_s];lia))
theorem big_do(B:BigI X h G M num vs){v:Int}{G1:Gz}(r1:Runs X (dg h+8) 589 [.ref 3] (gst sc mix G) (.int v,gst sc mix G1))(hv0:v % 10=2)(m1:Le' G G1)(I1:GI G1)(b1:Bn G1 (b+8*cs h+99)):StY X (dg h+9) sc mix G b M q lp (h+1) num vs 732 [.int (.ofNat h)]:=by
 have B1:=B.le m1 I1
 obtain @⟨s1,G2,r2,m2,I2,b2,x1⟩:=B1.blk (sc:=sc) (mix:=mix) (q:=q) (lp:=true) (k:=num) (b:=b+3) (by unfold Bn at *;lia)
 have B2:=B1.le m2 I2
 obtain @⟨t,G3,r3,m3,I3,b3,x,_⟩:=test_p (X:=X) (D:=11+10*h) (q:=q) (sc:=sc) (mix:=mix) (cr:=[.int num,.int (b2i lp),.int (b2i q)]) B2.c I2 (b:=b) b2
 have r3:=r3.le (by unfold dg;lia:11+10*h+3≤dg h+8)
 have r2:=r2.le (by unfold dg;lia:11+10*h≤dg h+8)
 exact .mk (.by 1 rfl fun q=>q _ _ r1 _ (bm hv0 rfl) _ _ (loop_0 B.c.b) _ _ r2 _ _ r3) (m1.trans (m2.trans m3)) I3 b3 (sok rfl rfl (GSA.up (X:=X) (fun C F=>gs_do (D:=dd h+8) C F.env (by decide) (by have:=B.hw;lia) ((x C F).le (by unfold dd;lia)) (x1 C (F.le m3))) (by lia) (Nat.le_refl _)) (by rw[wt_s];lia))
end
structure NewV(X:Wd)(h:Nat)(sc:List Int)(mix:Int)(G:Gz)(M:List Int)(vs:List Nat)(G1 G2:Gz)(b:Nat):Prop where
 r1:Runs X (dg h+7) 596 [.ref 3] (gst sc mix G) (.int (G.num+1),gst sc mix G1)
 r2:Runs X (dg h+7) 603 [.ref 3,.int (G.num+1)] (gst sc mix G1) (.int (.ofNat G1.of.length),gst sc mix G2)
 m:Le' G G2
 I:GI G2
 b2:Bn G2 b
 hk:G.num+1≠0
 hm:∀m∈(G.num+1)::M,m≤G2.num
 c:Cv G2 ((G.num+1)::M) vs
 lv:G2.of[G1.of.length]?=some (.int (G.num+1))
 j1:G1.of.length≠1
 j2:G1.of.length≠2
section
variable {X:Wd}{D f b n h:Nat}{sc:List Int}{mix:Int}{G G1 G2 G3 G' G'':Gz}{M M':List Int}{vs:List Nat}{q lp d sl:Bool}{P:RP}{e v s sp deep c3 at' u i:V}{cr args as ys:List V}{l w lid:Nat}{k c num lo:Int}{S:Int→Sg}{tl:Rho}{σ:Sg}
theorem newV(B:BigI X h G M num vs)(hb:Bn G (b+2)):∃G1 G2,NewV X h sc mix G M vs G1 G2 b:=by
 obtain⟨G1,r1,m1,I1,b1,e1⟩:=num_p (X:=X) (D:=dg h+6) (sc:=sc) (mix:=mix) B.I hb
 have hk:G.num+1≠0:=by have:=B.I.num;lia
 obtain⟨G2,r2,m2,I2,b2,e2⟩:=var_p (X:=X) (D:=dg h+6) (sc:=sc) (mix:=mix) I1 b1 hk
 have g3:2 < G1.of.length:=(Qc.mp I1.o2).1
 exact⟨G1,G2,r1,r2,m1.trans m2,I2,b2,hk,fun m hx=>QH ((Qt.mp hx).elim (fun e=>by rw[e,e1];exact Qa _) fun hx=>QH (B.hm m hx) m1.num) m2.num,(B.c.le (m1.trans m2)).in,by rw[e2];exact Qx ..,by lia,by lia⟩
theorem BigI.inn(B:BigI X h G M num vs)(N:NewV X h sc mix G M vs G1 G2 b):BigI X h G2 ((G.num+1)::M) k vs:=⟨B.T,B.hw,N.hm,N.c,B.hv,N.I⟩
theorem BigI.add(B:BigI X h G M num vs)(lv:G.of[lid]?=some (.int k))(hk:k∈M)(hv:vs.length+7*(h+1)+2≤40):BigI X h G M num (vs++[lid]):=⟨B.T,B.hw,B.hm,B.c.add lv hk (by lia),by rw[Qb,Qu];lia,B.I⟩
theorem lv_live(F:Fin' G P)(lv:G.of[lid]?=some (.int k))(hk:k∈M):lid < P.of.length∧Qm P M q lid:=⟨(Qc.mp (pre_get F.of lv)).1,.inl ⟨k,hk,pre_get F.of lv⟩⟩
theorem Cv.ble(c:Cv G M vs):Nat.ble ((lidV vs).length+1) LIM=true:=by unfold lidV;rw[List.length_map];exact Nat.ble_eq.mpr (Nat.le_trans (Nat.succ_le_succ c.b) (by decide))
theorem doalone_p(B:BigI X h G M num vs)(hv:vs.length+7*(h+1)+6≤40)(hb:Bn G (b+8*cs h+99)):StY X (dg h+8) sc mix G b M q lp (h+1) num vs 673 [.int (.ofNat h)]:=by
 obtain⟨G1,G2,N⟩:=newV (sc:=sc) (mix:=mix) (b:=b+8*cs h+97) B hb
 have m0:=N.m
 have B2:BigI X h G2 M num vs:=B.le m0 N.I
 obtain @⟨s1,G3,r3,m3,I3,b3,x1⟩:=B2.blk (sc:=sc) (mix:=mix) (q:=q) (lp:=true) (k:=num) (b:=b+20) (by have:=N.b2;unfold Bn at *;lia)
 have c3:=N.c.le m3
 obtain @⟨e,G4,r4,m4,I4,b4,x⟩:=int_p (X:=X) (D:=10+10*h) (q:=q) (sc:=sc) (mix:=mix) (cr:=[.int num,.int (b2i lp),.int (b2i q)]) c3 I3 (b:=b+16) b3
 have ci:=(c3.le m4).add (pre_get m4.of (pre_get m3.of N.lv)) Qe (by lia)
 obtain⟨f,G5,r5,m5,I5,b5,xf⟩:=grab_p (X:=X) (D:=dg h+6) (q:=q) (sc:=sc) (mix:=mix) (cr:=[.int (G.num+1),.int 0,.int 0]) ci I4 (b:=b+10) (by unfold Bn at *;lia)
 obtain⟨l,G6,hl,r6,m6,I6,b6⟩:=(ci.le m5).loc (X:=X) (D:=dg h+5) (sc:=sc) (mix:=mix) (cr:=[.int (G.num+1),.int 0,.int 0]) I5 (b:=b) (by unfold Bn at *;lia)
 obtain⟨m,G7,r7,m7,I7,b7⟩:=call_p (X:=X) (D:=dg h+5) (sc:=sc) (mix:=mix) (k:=1) (args:=[tasg G1.of.length e,tlam f,tloc 7 l]) I6 b6
 have mm:=m4.trans (m5.trans (m6.trans m7))
 rw[lidV_app]at r5 r6
 exact .mk (.by 4 rfl fun q=>q _ _ N.r1 _ _ N.r2 _ _ (loop_0 B.c.b) _ _ (r3.le (by unfold dg;lia)) _ _ (r4.le (by unfold dg;lia)) B.c.ble _ _ r5 _ _ r6 _ _ r7) (m0.trans (m3.trans mm)) I7 b7 (sok rfl rfl (GSA.up (X:=X) (fun{sp S P} C F=>by
  have hk:=N.hk
  have kn:(G.num+1)∉M:=fun hx=>by have:=B.hm _ hx;lia
  have ge:=ge_tff (D:=39) (k:=1) (z:=m) C (F.scp (q:=q) (Qg (G.num+1) B.c.z)) (GN.le (xf (F.le (m6.trans m7))) (by lia)) (GN.le (gn_loc (D:=0) (F.live ((ci.le m5).le (m6.trans m7)).s hl)) (by lia)) ((ge_asg (D:=17) (lv_live (q:=q) F (pre_get (m3.trans mm).of N.lv) Qe) (x C (F.le (m5.trans (m6.trans m7))))).le (by lia))
  exact gs_doB (D:=dd h+8) (k:=G.num+1) C F.env (show 2+(41+0)≤100 by decide) (by have:=B.hw;lia) (fun a ha hq=>hq.elim (fun⟨j,hj,e⟩=>kn (by rw[ha]at e;injection e with e;injection e with e;subst e;exact hj)) fun hq=>by rw[hq.1,List.getElem?_eq_none (Nat.le_refl _)]at ha;exact nomatch ha) (fun _=>qm_in hk) (fun _=>qm_up) (ge.le (by unfold dd;lia)) (x1 C (F.le mm))) (by lia) (Nat.le_refl _)) (by rw[wt_s];lia))
end
section
variable {X:Wd}{D f b n h:Nat}{sc:List Int}{mix:Int}{G G1 G2 G3 G' G'':Gz}{M M':List Int}{vs:List Nat}{q lp d sl:Bool}{P:RP}{e v s sp deep c3 at' u i:V}{cr args as ys:List V}{l w lid:Nat}{k c num lo:Int}{S:Int→Sg}{tl:Rho}{σ:Sg}
theorem for_g(hk:k≠0)(hw:wt h≤400000)(hi:GSA X (k::M) q 60 60 2 i G)(hu:u=.none∨EX X (k::M) q 20 2 true true u G)(he:EX X (k::M) q 50 3 true false e G)(xb:GSA X (k::M) q (dd h+8) (2*wt h) 3 s G):SOk X M q (h+1) num (tfor [i] u [t1 1 e] s k) G:=
 sok rfl rfl (w:=60+((2+2*wt h)+(3+(2+2*wt h)))) (GSA.up (X:=X) (D:=58+40*h+30) (fun{sp S P} C F=>by
  refine gs_for (D:=58+40*h) (w:=2+2*wt h) F.env (fun _=>qm_in hk) (fun _=>qm_up) (by lia) (by decide) (fun lo=>(hi C F lo).up (by lia) (Qd _)) ((he C F).le (by lia)) fun lo=>?_
  have xb':GS X sp S P P.of.length (Qm P (k::M) q) (58+40*h+10) (2*wt h) 3 s:=fun lo=>(xb C F lo).up (by unfold dd;lia) (Nat.le_refl _)
  rcases hu with rfl|hu
  ·exact fo_none xb'
  ·exact fo_ge F.env (by decide) ((hu C F).le (by lia)) xb') (by unfold dd;lia) (Nat.le_refl _)) (by rw[wt_s];lia)
theorem for_p(B:BigI X h G M num vs)(hv:vs.length+7*(h+1)+6≤40)(hb:Bn G (b+8*cs h+99)):StY X (dg h+8) sc mix G b M q lp (h+1) num vs 680 [.int (.ofNat h)]:=by
 obtain⟨G1,G2,N⟩:=newV (sc:=sc) (mix:=mix) (b:=b+8*cs h+97) B hb
 have hk:=N.hk
 have loop:=loop_1 (X:=X) (D:=dg h+6) (σ:=gst sc mix G2) (vs:=vs) (num:=num) (lp:=lp) (q:=q) (lid:=G1.of.length) (by lia)
 have dgl:11+10*h+3≤dg h+7:=by unfold dg;lia
 have rest:∀{i:V} {G4:Gz},Le' G2 G4→GI G4→Bn G4 (b+8*cs h+80)→GSA X ((G.num+1)::M) q 60 60 2 (t2 2 (.ofNat G1.of.length) i) G4→
   (∀{u e x s5 G'} (w:Bool),(∃G5 G6 a,Runs X (dg h+7) 589 [.ref 3] (gst sc mix G4) (.int a,gst sc mix G5)∧((a % 3==0)=true∧u=.none∧G6=G5∨(a % 3==0)=false∧Runs X (dg h+7) 638 [.ref 3,cT (vs++[G1.of.length]) num true q] (gst sc mix G5) (u,gst sc mix G6))∧∃G7 G8 G9 l,Runs X (dg h+7) 617 [.ref 3,cT (vs++[G1.of.length]) num true q] (gst sc mix G6) (l,gst sc mix G7)∧Runs X (dg h+7) 631 [.ref 3,cT (vs++[G1.of.length]) num true q] (gst sc mix G7) (x,gst sc mix G8)∧Runs X (dg h+7) 610 [.ref 3,.int 7,.flist [l,x]] (gst sc mix G8) (e,gst sc mix G9)∧∃a2 G10,Runs X (dg h+7) 589 [.ref 3] (gst sc mix G9) (.int a2,gst sc mix G10)∧(a2 % 2 != 0)=w∧Runs X (dg h+7) 659 [.ref 3,cT (vs++[G1.of.length]) num true q,.int (.ofNat h)] (gst sc mix G10) (s5,gst sc mix G'))→
    Runs X (dg h+8) 680 [.ref 3,cT vs num lp q,.int (.ofNat h)] (gst sc mix G) (tfor [t2 2 (.ofNat G1.of.length) i] u [t1 1 (@Bool.rec (fun _=>V) e (tasg G1.of.length e) w)] s5 (G.num+1),gst sc mix G'))→StY X (dg h+8) sc mix G b M q lp (h+1) num vs 680 [.int (.ofNat h)]:=fun{i G4} m4 I4 b4 hi k=>by
  have ci:=(N.c.le m4).add (pre_get m4.of N.lv) Qe (by lia)
  obtain⟨a,G5,r5,m5,I5,b5⟩:=any_p (X:=X) (D:=dg h+6) (sc:=sc) (mix:=mix) I4 (b:=b+8*cs h+79) b4
  have ht:∃u G6,((a % 3==0)=true∧u=.none∧G6=G5∨(a % 3==0)=false∧Runs X (dg h+7) 638 [.ref 3,cT (vs++[G1.of.length]) num true q] (gst sc mix G5) (u,gst sc mix G6))∧Le' G5 G6∧GI G6∧Bn G6 (b+8*cs h+76)∧(u=.none∨EX X ((G.num+1)::M) q 20 2 true true u G6):=by
   rcases dec_eq (a % 3) 0 with n|n
   ·exact⟨_,_,.inl ⟨n,rfl,rfl⟩,.refl,I5,by unfold Bn at *;lia,.inl rfl⟩
   ·obtain⟨r,m,I,bb,x,_⟩:=test_p (X:=X) (D:=11+10*h) (q:=q) (sc:=sc) (mix:=mix) (cr:=[.int num,.int (b2i true),.int (b2i q)]) (ci.le m5) I5 (b:=b+8*cs h+76) b5
    exact⟨_,_,.inr ⟨n,r.le dgl⟩,m,I,bb,.inr x⟩
  obtain⟨u,G6,hr6,m6,I6,b6,hu⟩:=ht
  have c6:=(ci.le m5).le m6
  obtain⟨l,G7,hl,r7,m7,I7,b7⟩:=c6.loc (X:=X) (D:=dg h+5) (sc:=sc) (mix:=mix) (cr:=[.int num,.int (b2i true),.int (b2i q)]) I6 (b:=b+8*cs h+75) b6
  obtain @⟨x,G8,r8,m8,I8,b8,xx⟩:=int_p (X:=X) (D:=11+10*h) (q:=q) (sc:=sc) (mix:=mix) (cr:=[.int num,.int (b2i true),.int (b2i q)]) (c6.le m7) I7 (b:=b+8*cs h+71) b7
  obtain⟨m,G9,r9,m9,I9,b9⟩:=call_p (X:=X) (D:=dg h+5) (sc:=sc) (mix:=mix) (k:=7) (args:=[tloc 7 l,x]) I8 b8
  obtain⟨a2,G10,r10,m10,I10,b10⟩:=any_p (X:=X) (D:=dg h+6) (sc:=sc) (mix:=mix) I9 (b:=b+8*cs h+70) b9
  have mc:=m5.trans (m6.trans (m7.trans (m8.trans (m9.trans m10))))
  have Bi:BigI X h G10 ((G.num+1)::M) num (vs++[G1.of.length]):=((B.inn N).le (m4.trans mc) I10).add (pre_get (m4.trans mc).of N.lv) Qe (by lia)
  obtain @⟨s5,G',r11,m11,I11,b11,xb⟩:=Bi.blk (sc:=sc) (mix:=mix) (q:=q) (lp:=true) (k:=num) (b:=b) (by unfold Bn at *;lia)
  have mf:=mc.trans m11
  have e0:EX X ((G.num+1)::M) q 40 3 true false (tcall 7 m [tloc 7 l,x]) G':=fun C F=>(ge_ft (D:=20) C (F.scp (Qg _ B.c.z)) (F.live (c6.le (m7.trans (m8.trans (m9.trans (m10.trans m11))))).s hl) ((xx C (F.le (m9.trans (m10.trans m11)))).le (by lia))).le (by lia)
  have rr:=k (a2 % 2 != 0) ⟨G5,G6,a,r5,hr6,G7,G8,G9,_,r7,r8.le dgl,r9,a2,G10,r10,rfl,r11.le (by unfold dg;lia)⟩
  refine .mk rr (N.m.trans (m4.trans mf)) I11 b11 (for_g hk B.hw (fun C F=>hi C (F.le mf)) (hu.imp (fun h=>h) fun h=>fun{_ _ _} C F=>h C (F.le (m7.trans (m8.trans (m9.trans (m10.trans m11)))))) ?_ xb)
  cases a2 % 2 != 0 with
  |true=>exact fun C F=>(ge_asg (D:=37) (lv_live F (pre_get (m4.trans mf).of N.lv) Qe) (e0 C F)).le (by lia)
  |false=>exact fun C F=>(e0 C F).le (by lia)
 have fin:∀{i:V} {G4:Gz} (v:Int) (z:Bool) {G3:Gz},Runs X (dg h+7) 589 [.ref 3] (gst sc mix G2) (.int v,gst sc mix G3)→(v % 3==0)=z→(z=true∧i=.none∧G4=G3∨z=false∧Runs X (dg h+7) 631 [.ref 3,cT vs num lp q] (gst sc mix G3) (i,gst sc mix G4))→∀{u e x s5 G'} (w:Bool),(∃G5 G6 a,Runs X (dg h+7) 589 [.ref 3] (gst sc mix G4) (.int a,gst sc mix G5)∧((a % 3==0)=true∧u=.none∧G6=G5∨(a % 3==0)=false∧Runs X (dg h+7) 638 [.ref 3,cT (vs++[G1.of.length]) num true q] (gst sc mix G5) (u,gst sc mix G6))∧∃G7 G8 G9 l,Runs X (dg h+7) 617 [.ref 3,cT (vs++[G1.of.length]) num true q] (gst sc mix G6) (l,gst sc mix G7)∧Runs X (dg h+7) 631 [.ref 3,cT (vs++[G1.of.length]) num true q] (gst sc mix G7) (x,gst sc mix G8)∧Runs X (dg h+7) 610 [.ref 3,.int 7,.flist [l,x]] (gst sc mix G8) (e,gst sc mix G9)∧∃a2 G10,Runs X (dg h+7) 589 [.ref 3] (gst sc mix G9) (.int a2,gst sc mix G10)∧(a2 % 2 != 0)=w∧Runs X (dg h+7) 659 [.ref 3,cT (vs++[G1.of.length]) num true q,.int (.ofNat h)] (gst sc mix G10) (s5,gst sc mix G'))→
    Runs X (dg h+8) 680 [.ref 3,cT vs num lp q,.int (.ofNat h)] (gst sc mix G) (tfor [t2 2 (.ofNat G1.of.length) i] u [t1 1 (@Bool.rec (fun _=>V) e (tasg G1.of.length e) w)] s5 (G.num+1),gst sc mix G'):=fun{i G4} v z {G3} r3 hz hi {u e x s5 G'} w hh=>by
  obtain⟨G5,G6,a,r5,hu,G7,G8,G9,l,r7,r8,r9,a2,G10,r10,hw,r11⟩:=hh
  rcases hi with⟨rfl,rfl,rfl⟩|⟨rfl,r4⟩<;>rcases hu with⟨n,rfl,rfl⟩|⟨n,r6⟩<;>cases w
  ·exact .by 2184 rfl fun q=>q _ _ N.r1 _ _ N.r2 _ _ loop _ _ r3 true hz _ _ r5 true n _ _ r7 _ _ r8 _ _ r9 _ _ r10 false hw _ _ r11
  ·exact .by 2184 rfl fun q=>q _ _ N.r1 _ _ N.r2 _ _ loop _ _ r3 true hz _ _ r5 true n _ _ r7 _ _ r8 _ _ r9 _ _ r10 true hw _ _ r11
  ·exact .by 2184 rfl fun q=>q _ _ N.r1 _ _ N.r2 _ _ loop _ _ r3 true hz _ _ r5 false n _ _ r6 _ _ r7 _ _ r8 _ _ r9 _ _ r10 false hw _ _ r11
  ·exact .by 2184 rfl fun q=>q _ _ N.r1 _ _ N.r2 _ _ loop _ _ r3 true hz _ _ r5 false n _ _ r6 _ _ r7 _ _ r8 _ _ r9 _ _ r10 true hw _ _ r11
  ·exact .by 2184 rfl fun q=>q _ _ N.r1 _ _ N.r2 _ _ loop _ _ r3 false hz _ _ r4 _ _ r5 true n _ _ r7 _ _ r8 _ _ r9 _ _ r10 false hw _ _ r11
  ·exact .by 2184 rfl fun q=>q _ _ N.r1 _ _ N.r2 _ _ loop _ _ r3 false hz _ _ r4 _ _ r5 true n _ _ r7 _ _ r8 _ _ r9 _ _ r10 true hw _ _ r11
  ·exact .by 2184 rfl fun q=>q _ _ N.r1 _ _ N.r2 _ _ loop _ _ r3 false hz _ _ r4 _ _ r5 false n _ _ r6 _ _ r7 _ _ r8 _ _ r9 _ _ r10 false hw _ _ r11
  ·exact .by 2184 rfl fun q=>q _ _ N.r1 _ _ N.r2 _ _ loop _ _ r3 false hz _ _ r4 _ _ r5 false n _ _ r6 _ _ r7 _ _ r8 _ _ r9 _ _ r10 true hw _ _ r11
 obtain⟨v,G3,r3,m3,I3,b3⟩:=any_p (X:=X) (D:=dg h+6) (sc:=sc) (mix:=mix) N.I (b:=b+8*cs h+96) N.b2
 rcases dec_eq (v % 3) 0 with n|n
 ·exact rest m3 I3 (by unfold Bn at *;lia) (fun C F=>GSA.up (X:=X) (fun C F=>gs_loc0 (D:=0) (w:=60)) (by decide) (by decide) C F) (fin v true r3 n (.inl ⟨rfl,rfl,rfl⟩))
 ·obtain⟨r4,m4,I4,b4,x⟩:=int_p (X:=X) (D:=11+10*h) (q:=q) (sc:=sc) (mix:=mix) (cr:=[.int num,.int (b2i lp),.int (b2i q)]) (N.c.le m3) I3 (b:=b+8*cs h+92) b3
  exact rest (m3.trans m4) I4 (by unfold Bn at *;lia) (fun C F=>GSA.up (X:=X) (fun C F=>gs_loc F.env (by decide) (lv_live F (pre_get (m3.trans m4).of N.lv) List.mem_cons_self) (x C F)) (by decide) (by decide) C F) (fin v false r3 n (.inr ⟨rfl,r4.le dgl⟩))
end
section
variable {X:Wd}{D f b n h:Nat}{sc:List Int}{mix:Int}{G G1 G2 G3 G' G'':Gz}{M M':List Int}{vs:List Nat}{q lp d sl:Bool}{P:RP}{e v s sp deep c3 at' u i t:V}{cr args as ys:List V}{l l' w lid:Nat}{k c num lo:Int}{S:Int→Sg}{tl:Rho}{σ:Sg}
theorem loop_2(hv:vs.length+1≤40):Runs X (D+1) 666 [cT vs num lp q,.tup [.int (.ofNat l),.int (.ofNat l')]] σ (cT ((vs++[l])++[l']) num true q,σ):=by
 have r:Runs X (D+1) 666 [cT vs num lp q,.tup [.int (.ofNat l),.int (.ofNat l')]] σ (.tup [.tup (lidV vs++[.int (.ofNat l),.int (.ofNat l')]),.int num,.int 1,.int (b2i q)],σ):=.by 4 rfl fun q=>q (Nat.ble_eq.mpr (by unfold lidV;rw[List.length_map];exact Nat.le_trans (Nat.succ_le_succ hv) (by decide)))
 have e:lidV ((vs++[l])++[l'])=lidV vs++[.int (.ofNat l),.int (.ofNat l')]:=by rw[lidV_app,lidV_app];exact QN _ _ _
 show Runs X (D+1) 666 _ σ (.tup [.tup (lidV ((vs++[l])++[l'])),_,_,_],σ)
 rw[e];exact r
theorem each_p(B:BigI X h G M num vs)(hv:vs.length+7*(h+1)+6≤40)(hb:Bn G (b+8*cs h+99)):StY X (dg h+8) sc mix G b M q lp (h+1) num vs 687 [.int (.ofNat h)]:=by
 obtain⟨G1,G2,N⟩:=newV (sc:=sc) (mix:=mix) (b:=b+8*cs h+97) B hb
 have hk:=N.hk
 have dgl:11+10*h+3≤dg h+7:=by unfold dg;lia
 obtain⟨G3,r3,m3,I3,b3,e3⟩:=var_p (X:=X) (D:=dg h+6) (sc:=sc) (mix:=mix) N.I (b:=b+8*cs h+95) (k:=G.num+1) N.b2 hk
 have lv2:G3.of[G2.of.length]?=some (.int (G.num+1)):=by rw[e3];exact Qx ..
 obtain⟨a,G4,r4,m4,I4,b4⟩:=any_p (X:=X) (D:=dg h+6) (sc:=sc) (mix:=mix) I3 (b:=b+8*cs h+94) b3
 have tn:∃t G5,((a % 2 != 0)=true∧Runs X (dg h+7) 610 [.ref 3,.int 7,.flist [.tup [.int 32,.int 7]]] (gst sc mix G4) (t,gst sc mix G5)∨(a % 2 != 0)=false∧t=.tup [.int 32,.int 7]∧G5=G4)∧Le' G4 G5∧GI G5∧Bn G5 (b+8*cs h+94)∧∃d,NX X ((G.num+1)::M) q 20 0 d t G5:=by
  cases hz:a % 2 != 0 with
  |true=>
   obtain⟨m,G5,r,m5,I5,b5⟩:=call_p (X:=X) (D:=dg h+5) (sc:=sc) (mix:=mix) (k:=7) (args:=[.tup [.int 32,.int 7]]) I4 b4
   exact⟨_,_,.inl ⟨rfl,r⟩,m5,I5,b5,true,fun F=>GN.le (gn_call (D:=1) (as:=[.tup [.int 32,.int 7]]) (F.scp (Qg _ B.c.z)) (show 1≤LIM by decide) (ga_cons (gn_hole (D:=0)) ga_nil)) (by lia)⟩
  |false=>exact⟨_,_,.inr ⟨rfl,rfl,rfl⟩,.refl,I4,b4,false,fun F=>GN.le (gn_hole (D:=0)) (by lia)⟩
 obtain⟨t,G5,hr5,m5,I5,b5,d,xt⟩:=tn
 have c5:=B.c.le (N.m.trans (m3.trans (m4.trans m5)))
 obtain @⟨e,G6,r6,m6,I6,b6,xe⟩:=int_p (X:=X) (D:=11+10*h) (q:=q) (sc:=sc) (mix:=mix) (cr:=[.int num,.int (b2i lp),.int (b2i q)]) c5 I5 (b:=b+8*cs h+90) b5
 have mc:=m3.trans (m4.trans (m5.trans m6))
 have Bi:BigI X h G6 ((G.num+1)::M) num ((vs++[G1.of.length])++[G2.of.length]):=(((B.inn N).le mc I6).add (pre_get mc.of N.lv) Qe (by lia)).add (pre_get (m4.trans (m5.trans m6)).of lv2) Qe (by rw[Qb,Qu];lia)
 obtain @⟨s5,G',r7,m7,I7,b7,xb⟩:=Bi.blk (sc:=sc) (mix:=mix) (q:=q) (lp:=true) (k:=num) (b:=b) (by unfold Bn at *;lia)
 have r7:=r7.le (by unfold dg;lia:11+10*h≤dg h+7)
 have rr:Runs X (dg h+8) 687 [.ref 3,cT vs num lp q,.int (.ofNat h)] (gst sc mix G) (eaS G1.of.length e s5 (.int 1) t (G.num+1),gst sc mix G'):=by
  rcases hr5 with⟨hz,r5⟩|⟨hz,rfl,rfl⟩
  ·exact .by 8 rfl fun q=>q _ _ N.r1 _ _ N.r2 _ _ r3 _ _ r4 true hz _ _ r5 _ _ (r6.le dgl) _ _ (loop_2 (by lia)) _ _ r7
  ·exact .by 8 rfl fun q=>q _ _ N.r1 _ _ N.r2 _ _ r3 _ _ r4 false hz _ _ (r6.le dgl) _ _ (loop_2 (by lia)) _ _ r7
 refine .mk rr (N.m.trans (mc.trans m7)) I7 b7 (sok rfl rfl (w:=2+(0+2*wt h+(0+2*wt h+(0+2*wt h+0)))) (GSA.up (X:=X) (D:=dd h+8+20) (fun{sp S P} C F=>?_) (by lia) (Qd _)) (by rw[wt_s];lia))
 have F5:=F.le m7
 have lv:=lv_live (q:=q) F (pre_get (mc.trans m7).of N.lv) (Qe (l:=M))
 exact gs_each (D:=dd h+8) (k:=G.num+1) F.env (fun _=>qm_in hk) (fun _=>qm_up) (by decide) lv.1 N.j1 N.j2 ((xe C F5).le (by unfold dd;lia)) (GN.le (xt (F.le (m6.trans m7))) (by unfold dd;lia)) (xb C F)
theorem GU.up{D':Nat}{Q:Nat→Prop}{u:V}(h:GU X P n Q D w u)(l:D≤D'):GU X P n Q D' w u:=by
 induction h with
 |no=>exact .no
 |yes hn h=>exact .yes hn (h.le l)
theorem using_p(B:BigI X h G M num vs)(hv:vs.length+7*(h+1)+6≤40)(hb:Bn G (b+8*cs h+99)):StY X (dg h+8) sc mix G b M q lp (h+1) num vs 713 [.int (.ofNat h)]:=by
 obtain⟨G1,G2,N⟩:=newV (sc:=sc) (mix:=mix) (b:=b+8*cs h+97) B hb
 have hk:=N.hk
 have dgl:11+10*h+3≤dg h+7:=by unfold dg;lia
 obtain @⟨e,G3,r3,m3,I3,b3,xe⟩:=int_p (X:=X) (D:=11+10*h) (q:=q) (sc:=sc) (mix:=mix) (cr:=[.int num,.int (b2i lp),.int (b2i q)]) N.c N.I (b:=b+8*cs h+93) N.b2
 obtain⟨a,G4,r4,m4,I4,b4⟩:=any_p (X:=X) (D:=dg h+6) (sc:=sc) (mix:=mix) I3 (b:=b+8*cs h+92) b3
 have lv4:=pre_get (m3.trans m4).of N.lv
 have tn:∃t G5,((a % 3==0)=true∧t=.none∧G5=G4∨(a % 3==0)=false∧Runs X (dg h+7) 610 [.ref 3,.int 7,.flist [tloc 7 G1.of.length]] (gst sc mix G4) (t,gst sc mix G5))∧Le' G4 G5∧GI G5∧Bn G5 (b+8*cs h+92)∧∀{P},Fin' G5 P→GU X P P.of.length (Qm P ((G.num+1)::M) q) 20 0 t:=by
  rcases dec_eq (a % 3) 0 with hz|hz
  ·exact⟨_,_,.inl ⟨hz,rfl,rfl⟩,.refl,I4,b4,fun F=>.no⟩
  ·obtain⟨m,G5,r,m5,I5,b5⟩:=call_p (X:=X) (D:=dg h+5) (sc:=sc) (mix:=mix) (k:=7) (args:=[tloc 7 G1.of.length]) I4 b4
   exact⟨_,_,.inr ⟨hz,r⟩,m5,I5,b5,fun F=>.yes rfl (GN.le (gn_call (D:=1) (as:=[tloc 7 G1.of.length]) (F.scp (Qg _ B.c.z)) (show 1≤LIM by decide) (ga_cons (gn_loc (D:=0) (lv_live F (pre_get m5.of lv4) Qe)) ga_nil)) (by lia))⟩
 obtain⟨t,G5,hr5,m5,I5,b5,xt⟩:=tn
 have mc:=m3.trans (m4.trans m5)
 have Bi:BigI X h G5 ((G.num+1)::M) num (vs++[G1.of.length]):=((B.inn N).le mc I5).add (pre_get m5.of lv4) Qe (by lia)
 obtain @⟨s5,G',r7,m7,I7,b7,xb⟩:=Bi.blk (sc:=sc) (mix:=mix) (q:=q) (lp:=lp) (k:=num) (b:=b) (by unfold Bn at *;lia)
 have r7:=r7.le (by unfold dg;lia:11+10*h≤dg h+7)
 rw[← cT_app]at r7
 have rr:Runs X (dg h+8) 713 [.ref 3,cT vs num lp q,.int (.ofNat h)] (gst sc mix G) (tblk [tuse G1.of.length e t s5] (G.num+1),gst sc mix G'):=by
  rcases hr5 with⟨hz,rfl,rfl⟩|⟨hz,r5⟩
  ·exact .by 72 rfl fun q=>q _ _ N.r1 _ _ N.r2 _ _ (r3.le dgl) _ _ r4 true hz B.c.ble _ _ r7
  ·exact .by 72 rfl fun q=>q _ _ N.r1 _ _ N.r2 _ _ (r3.le dgl) _ _ r4 false hz _ _ r5 B.c.ble _ _ r7
 refine .mk rr (N.m.trans (mc.trans m7)) I7 b7 (sok rfl rfl (w:=2+(2*wt h+0)) (GSA.up (X:=X) (D:=dd h+36) (fun{sp S P} C F=>?_) (by lia) (Qd _)) (by rw[wt_s];lia))
 have lv:=lv_live (q:=q) F (pre_get (mc.trans m7).of N.lv) (Qe (l:=M))
 have g:=gs_using (D:=dd h+8) F.env (show 2≤100 by decide) lv N.j1 N.j2 ((xe C (F.le (m4.trans (m5.trans m7)))).le (by unfold dd;lia)) ((xt (F.le m7)).up (by unfold dd;lia)) (xb C F)
 exact gs_block1 (D:=dd h+26) (k:=G.num+1) F.env (fun _=>qm_in hk) (fun _=>qm_up) rfl rfl g
end
inductive WbG(X:Wd)(M:List Int)(q:Bool)(G:Gz):V→Bool→Prop
 |none:WbG X M q G .none false
 |w {e}:EX X M q 20 2 true true e G→Ha X 20 e true→(∀σ,Runs X 1 706 [e] σ (.bool true,σ))→WbG X M q G e true
 |n {e d}:isNv e=false→NX X M q 20 2 d e G→EX X M q 20 2 true true e G→(∀σ,Runs X 1 706 [e] σ (.bool false,σ))→WbG X M q G e false
inductive LbG(X:Wd)(M:List Int)(q z:Bool)(num:Int)(G:Gz):V→Nat→Bool→Prop
 |const {y}:z=false→LbG X M q z num G (tlc y) 0 false
 |null:LbG X M q z num G (.tup [.int 4]) 0 false
 |type {k l e b}:z=true→l=0∨G.of[l]?=some (.int num)→WbG X M q G e b→LbG X M q z num G (ttype k l e) l b
inductive LbP(X:Wd)(D:Nat)(sc:List Int)(mix:Int)(G:Gz)(b:Nat)(M:List Int)(q lp z:Bool)(num:Int)(vs:List Nat)(at':Int):Prop
 |mk {L l w G'}:Runs X D 694 [.ref 3,cT vs num lp q,.int (b2i z),.int at'] (gst sc mix G) (L,gst sc mix G')→Le' G G'→GI G'→Bn G' b→LbG X M q z num G' L l w→LbP X D sc mix G b M q lp z num vs at'
section
variable {X:Wd}{D f b n h:Nat}{sc:List Int}{mix:Int}{G G1 G2 G3 G' G'':Gz}{M M':List Int}{vs:List Nat}{q lp d sl z w:Bool}{P:RP}{e v s sp deep c3 u i t L:V}{cr args as ys:List V}{l l' lid:Nat}{k c num lo at':Int}{S:Int→Sg}{tl:Rho}{σ:Sg}
theorem WbG.le(h:WbG X M q G e w)(a:Le' G G'):WbG X M q G' e w:=by
 induction h with
 |none=>exact .none
 |w x ha r=>exact .w (fun C F=>x C (F.le a)) ha r
 |n hn x y r=>exact .n hn (fun F=>x (F.le a)) (fun C F=>y C (F.le a)) r
theorem LbG.le(h:LbG X M q z num G L l w)(a:Le' G G'):LbG X M q z num G' L l w:=by
 induction h with
 |const h=>exact .const h
 |null=>exact .null
 |type z h x=>exact .type z (h.imp (fun h=>h) (pre_get a.of)) (x.le a)
theorem LbG.lv(h:LbG X M q z num G L l w):l=0∨G.of[l]?=some (.int num):=by
 induction h with
 |const _=>exact .inl rfl
 |null=>exact .inl rfl
 |type _ h _=>exact h
theorem WbG.run(h:WbG X M q G e w):Runs X 1 706 [e] σ (.bool w,σ):=by
 induction h with
 |none=>exact .by 0 rfl fun q=>q
 |w _ _ r=>exact r σ
 |n _ _ _ r=>exact r σ
theorem lv_l(F:Fin' G P)(hn:num∈M)(h:l=0∨G.of[l]?=some (.int num)):l=0∨l < P.of.length∧Qm P M q l:=h.imp (fun h=>h) fun h=>lv_live F h hn
theorem LbG.lq(h:LbG X M q z num G L l false)(hn:num∈M)(F:Fin' G P)(le:20≤D):LQ X P P.of.length (Qm P M q) D 2 L:=by
 cases h with
 |const _=>exact .const
 |null=>exact .null
 |type _ hl x=>
  cases x with
  |none=>exact .type (lv_l F hn hl) .no
  |n hn' x _ _=>exact .type (lv_l F hn hl) (.yes hn' ((x F).le le))
theorem LbG.lw(h:LbG X M q true num G L l w)(hn:num∈M)(C:Spl X sp S)(F:Fin' G P)(le:20≤D):LW X sp S P P.of.length (Qm P M q) D 2 L w:=by
 induction h with
 |const h=>exact nomatch h
 |null=>exact .null
 |type _ hl x=>
  induction x with
  |none=>exact .none (lv_l F hn hl)
  |w x ha _=>exact .ge (lv_l F hn hl) ((x C F).le le) (ha.le le)
  |n hn' x y _=>exact .ge (lv_l F hn hl) ((y C F).le le) ((x F).ha.le le)
theorem LbG.zz(h:LbG X M q z num G L l true):z=true:=by
 cases h with
 |type h _ _=>exact h
theorem m4(v:Int):v % 4=0∨v % 4=1∨v % 4=2∨v % 4=3:=modn (P:=fun x=>x=0∨x=1∨x=2∨x=3) v 4 (by decide) (by decide)
theorem when_p(c:Cv G M vs)(I:GI G)(hb:Bn G (b+4)):∃a G1 e G2 w,Runs X (D+3) 589 [.ref 3] (gst sc mix G) (.int a,gst sc mix G1)∧((a % 2 != 0)=true∧Runs X (D+3) 638 [.ref 3,.tup (.tup (lidV vs)::cr)] (gst sc mix G1) (e,gst sc mix G2)∨(a % 2 != 0)=false∧e=.none∧G2=G1)∧Le' G G2∧GI G2∧Bn G2 b∧WbG X M q G2 e w:=by
 obtain⟨a,G1,r1,m1,I1,b1⟩:=any_p (X:=X) (D:=D+2) (sc:=sc) (mix:=mix) I (b:=b+3) hb
 cases ha:a % 2 != 0 with
 |true=>
  obtain⟨r2,m2,I2,b2,x,y⟩:=test_p (X:=X) (D:=D) (q:=q) (sc:=sc) (mix:=mix) (cr:=cr) (c.le m1) I1 (b:=b) b1
  induction y with
  |w ha' r=>exact⟨_,_,_,_,_,r1,.inl ⟨ha,r2⟩,m1.trans m2,I2,b2,.w x ha' r⟩
  |n hn y r=>exact⟨_,_,_,_,_,r1,.inl ⟨ha,r2⟩,m1.trans m2,I2,b2,.n hn y x r⟩
 |false=>exact⟨_,_,_,_,_,r1,.inr ⟨ha,rfl,rfl⟩,m1,I1,by unfold Bn at *;lia,.none⟩
theorem label_p(c:Cv G M vs)(hn:num∈M)(h0:num≠0)(hv:vs.length+1≤40)(I:GI G)(hb:Bn G (b+8)):LbP X (D+4) sc mix G b M q lp z num vs at':=by
 obtain⟨v,G1,r1,m1,I1,b1⟩:=any_p (X:=X) (D:=D+2) (sc:=sc) (mix:=mix) I (b:=b+7) hb
 induction z with
 |false=>exact .mk (.by 0 rfl fun q=>q _ _ r1) m1 I1 (by unfold Bn at *;lia) (.const rfl)
 |true=>
  have c1:=c.le m1
  obtain⟨G2,r2,m2,I2,b2,e2⟩:=var_p (X:=X) (D:=D+2) (sc:=sc) (mix:=mix) I1 (b:=b+4) (k:=num) (by unfold Bn at *;lia) h0
  have g3:2 < G1.of.length:=(Qc.mp I1.o2).1
  have hz:(Int.ofNat G1.of.length==0)=false:=by rw[Zd];show((G1.of.length:Nat):Int)≠0;lia
  have lv:G2.of[G1.of.length]?=some (.int num):=by rw[e2];exact Qx ..
  have two:∀{kk:Int},(∀{G3 G4 a e},Runs X (D+3) 589 [.ref 3] (gst sc mix G2) (.int a,gst sc mix G3)→((a % 2 != 0)=true∧Runs X (D+3) 638 [.ref 3,.tup [.tup (lidV vs++[.int (.ofNat G1.of.length)]),.int num,.int (b2i lp),.int (b2i q)]] (gst sc mix G3) (e,gst sc mix G4)∨(a % 2 != 0)=false∧e=.none∧G4=G3)→Runs X (D+4) 694 [.ref 3,cT vs num lp q,.int 1,.int at'] (gst sc mix G) (ttype kk G1.of.length e,gst sc mix G4))→LbP X (D+4) sc mix G b M q lp true num vs at':=fun{kk} k=>by
   have ci:=(c1.le m2).add lv hn hv
   obtain⟨a,G3,e,G4,w,r3,hr,m3,I3,b3,x⟩:=when_p (X:=X) (D:=D) (q:=q) (sc:=sc) (mix:=mix) (cr:=[.int num,.int (b2i lp),.int (b2i q)]) ci I2 (b:=b) b2
   rw[lidV_app]at hr
   exact .mk (k r3 hr) (m1.trans (m2.trans m3)) I3 b3 (.type rfl (.inr (pre_get m3.of lv)) x)
  rcases m4 v with h|h|h|h
  ·exact .mk (.by 4 rfl fun q=>q _ _ r1 _ (bm h rfl)) m1 I1 (by unfold Bn at *;lia) .null
  ·obtain⟨a,G2,e,G3,w,r2,hr,m2,I2,b2,x⟩:=when_p (X:=X) (D:=D) (q:=q) (sc:=sc) (mix:=mix) (cr:=[.int num,.int (b2i lp),.int (b2i q)]) c1 I1 (b:=b) (by unfold Bn at *;lia)
   rcases hr with⟨ha,r3⟩|⟨ha,rfl,rfl⟩
   ·exact .mk (.by 32772 rfl fun q=>q _ _ r1 _ (bm h rfl) _ _ r2 true ha _ _ r3) (m1.trans m2) I2 b2 (.type (l:=0) rfl (.inl rfl) x)
   ·exact .mk (.by 32772 rfl fun q=>q _ _ r1 _ (bm h rfl) _ _ r2 false ha) (m1.trans m2) I2 b2 (.type (l:=0) rfl (.inl rfl) x)
  ·exact two fun r3 hr=>by
    rcases hr with⟨ha,r4⟩|⟨ha,rfl,rfl⟩
    ·exact .by 8393220 rfl fun q=>q _ _ r1 _ (bm h rfl) _ _ r2 false hz c.ble _ _ r3 true ha _ _ r4
    ·exact .by 8393220 rfl fun q=>q _ _ r1 _ (bm h rfl) _ _ r2 false hz c.ble _ _ r3 false ha
  ·exact two fun r3 hr=>by
    rcases hr with⟨ha,r4⟩|⟨ha,rfl,rfl⟩
    ·exact .by 8393220 rfl fun q=>q _ _ r1 _ (bm h rfl) _ _ r2 false hz c.ble _ _ r3 true ha _ _ r4
    ·exact .by 8393220 rfl fun q=>q _ _ r1 _ (bm h rfl) _ _ r2 false hz c.ble _ _ r3 false ha
end
noncomputable abbrev swB:Ss:=(.cons (.asg 12 (.call 694 (.cons (.var 0) (.cons (.var 1) (.cons (.var 4) (.cons (.var 9) .nil))))))
  (.cons (.asg 8 (.bop false (.cons (.var 8) (.cons (.bop true (.cons (.cmp .eq (.sub (.var 12) (.int 0)) (.int 3)) (.cons (.call 706 (.cons (.sub (.var 12) (.int 3)) .nil)) .nil))) .nil))))
  (.cons (.asg 13 (.ite (.cmp .eq (.var 7) (.var 9)) (.tup (.cons (.var 12) (.cons (.tup (.cons (.int 2) .nil)) .nil))) (.tup (.cons (.var 12) .nil))))
  (.cons (.app 6 (.tup (.cons (.var 13) (.cons (.ite (.cmp .eq (.sub (.var 12) (.int 0)) (.int 3)) (.sub (.var 12) (.int 2)) (.int 0)) .nil))))
  .nil))))
noncomputable abbrev swC:Ss:=(.cons (.asg 15 (.blt .tuple (.compF 17 (.tup (.cons (.var 10) (.cons (.var 14) .nil))))))
  (.cons (.asg 16 (.bin .add (.tup (.cons (.bin .add (.sub (.var 1) (.int 0)) (.var 15)) .nil)) (.frm (.var 1) (.int 1))))
  (.cons (.app 11 (.tup (.cons (.var 13) (.cons (.bin .add (.bin .add (.tup (.cons (.tup (.cons (.int 1) (.cons (.call 624 (.cons (.var 0) (.cons (.var 16) .nil))) .nil))) .nil)) (.blt .tuple (.call 652 (.cons (.var 0) (.cons (.var 16) (.cons (.var 2) (.cons (.int 1) .nil))))))) (.tup (.cons (.tup (.cons (.int 10) .nil)) .nil))) .nil))))
  .nil)))
noncomputable abbrev swR(c' deep nm so e:V)(rows:List V)(rest wt at':V)(tl:Rho):Rho:=(0,.v (.ref 3))::(1,.v c')::(2,.v deep)::(3,.v nm)::(4,.v so)::(5,.v e)::(6,.o rows)::(7,.v rest)::(8,.v wt)::(9,.v at')::tl
noncomputable abbrev swS(c' deep nm so e rv rest wt at':V)(tl:Rho):Rho:=(0,.v (.ref 3))::(1,.v c')::(2,.v deep)::(3,.v nm)::(4,.v so)::(5,.v e)::(6,.v rv)::(7,.v rest)::(8,.v wt)::(9,.v at')::tl
noncomputable abbrev sds(c:Bool):List V:=@Bool.rec (fun _=>List V) [] [tdef] c
inductive LbV(X:Wd):V→Nat→Bool→Prop
 |a {c as}:(c==3)=false→LbV X (.tup (.int c::as)) 0 (c==3)
 |b {k l e w}:(∀σ,Runs X 1 706 [e] σ (.bool w,σ))→LbV X (ttype k l e) l w
inductive Tl17:Rho→Prop
 |a:Tl17 []
 |b (x y):Tl17 [(15,.v x),(16,.v y)]
section
variable {X:Wd}{D f b n h:Nat}{sc:List Int}{mix:Int}{G G1 G2 G3 G' G'':Gz}{M M':List Int}{vs ls:List Nat}{q lp d sl z w w0 bc:Bool}{P:RP}{e v s sp deep c3 u i t L c' dp nm so x y lv:V}{cr args as ys rs:List V}{l l' lid:Nat}{k c num lo at' rest:Int}{S:Int→Sg}{tl:Rho}{σ σ':Sg}
theorem LbG.vw(h:LbG X M q z num G L l w):LbV X L l w:=by
 induction h with
 |const _=>exact .a rfl
 |null=>exact .a rfl
 |type _ _ x=>exact .b fun σ=>x.run
theorem sw_1(h:LbV X L l w)(r:Runs X (D+1) 694 [.ref 3,c',so,.int at'] σ (L,σ'))(hc:(rest==at')=bc)(hl:Nat.blt rs.length LIM=true):OkB X (D+1) swB (swR c' dp nm so e rs (.int rest) (.bool false) (.int at') []) σ (.next,swR c' dp nm so e (rs++[.tup [.tup (L::sds bc),.int (.ofNat l)]]) (.int rest) (.bool w) (.int at') [(12,.v L),(13,.v (.tup (L::sds bc)))],σ'):=by
 induction h with
 |a hk=>cases bc<;>exact .by 3232 fun q=>q _ _ r false hk _ hc false hk hl
 |b h7=>induction bc<;>exact .by 8448 fun q=>q _ _ r _ _ ((h7 _).le (by lia)) _ hc hl
theorem sw_2(h:LbV X L l w)(r:Runs X (D+1) 694 [.ref 3,c',so,.int at'] σ (L,σ'))(hc:(rest==at')=bc)(hl:Nat.blt rs.length LIM=true):OkB X (D+1) swB (swR c' dp nm so e rs (.int rest) (.bool w0) (.int at') [(12,.v x),(13,.v y)]) σ (.next,swR c' dp nm so e (rs++[.tup [.tup (L::sds bc),.int (.ofNat l)]]) (.int rest) (.bool (w0||w)) (.int at') [(12,.v L),(13,.v (.tup (L::sds bc)))],σ'):=by
 induction w0 with
 |false=>cases h with
  |a hk=>cases bc<;>exact .by 3232 fun q=>q _ _ r false hk _ hc false hk hl
  |b h7=>cases bc<;>exact .by 8448 fun q=>q _ _ r _ _ ((h7 _).le (by lia)) _ hc hl
 |true=>cases h with
  |a hk=>cases bc<;>exact .by 200 fun q=>q _ _ r _ hc false hk hl
  |b h7=>cases bc<;>exact .by 264 fun q=>q _ _ r _ hc hl
theorem sw_c(ht:Tl17 tl)(hf:FilR [lv,.int (.ofNat l)] (lidV ls))(ha:(lidV vs).length+(lidV ls).length≤LIM)(r1:Runs X D 624 [.ref 3,cT (vs++ls) k lp q] σ (v,σ'))(r2:Runs X D 652 [.ref 3,cT (vs++ls) k lp q,dp,.int 1] σ' (.flist [s],gst sc mix G))(hl:Nat.blt ys.length LIM=true):∃tl',Tl17 tl'∧OkB X D swC (swS (cT vs k lp q) dp nm so e u (.int rest) (.bool w0) (.int at') ((12,.v x)::(13,.v y)::(10,.v lv)::(11,.o ys)::(14,.v (.int (.ofNat l)))::tl)) σ (.next,swS (cT vs k lp q) dp nm so e u (.int rest) (.bool w0) (.int at') ((12,.v x)::(13,.v y)::(10,.v lv)::(11,.o (ys++[.tup [y,.tup [t1 1 v,s,.tup [.int 10]]]]))::(14,.v (.int (.ofNat l)))::tl'),gst sc mix G):=by
 have e:lidV (vs++ls)=lidV vs++lidV ls:=List.map_append
 unfold cT at r1 r2
 rw[e]at r1 r2
 induction ht<;>exact⟨_,.b _ _,.by 8200 fun q=>q _ _ rfl hf (QR.mpr ha) _ _ r1 _ _ r2 hl⟩
theorem fil_1{m:Nat}{xs:List V}(hm:m=0∨G.of[m]?=some (.int k))(hf:FilR xs (lidV ls))(hl:ls.length≤n)(hs:∀x∈ls,G.of[x]?=some (.int k)):∃ls,FilR (.int (.ofNat m)::xs) (lidV ls)∧ls.length≤n+1∧∀x∈ls,G.of[x]?=some (.int k):=by
 rcases hm with rfl|hm
 ·exact⟨ls,.skip hf,Nat.le_succ_of_le hl,hs⟩
 ·induction m with
  |zero=>exact⟨ls,.skip hf,Nat.le_succ_of_le hl,hs⟩
  |succ m=>exact⟨(m+1)::ls,.keep rfl hf,Qv hl,fun x hx=>(Qt.mp hx).elim (fun e=>e▸hm) (hs x)⟩
theorem Cv.adds(c:Cv G M vs)(hs:∀x∈ls,G.of[x]?=some (.int k))(hk:k∈M)(hl:vs.length+ls.length≤40):Cv G M (vs++ls):=⟨fun l hl=>(QI.mp hl).elim (c.s l) fun e=>⟨k,hk,hs l e⟩,by rw[Qb];exact QE c.p (Qw _ _),by rw[Qb];exact hl,c.z⟩
theorem swrow_p(T:TurnH X h)(hn:k∈M)(h0:k≠0)(hm:∀m∈M,m≤G.num)(c:Cv G M vs)(hv:vs.length+7*(h+1)≤40)(I:GI G)(hb:Bn G (b+cs h+2)):∃f s G1 G2,Runs X (10+10*h) 624 [.ref 3,cT vs k lp q] (gst sc mix G) (tlam f,gst sc mix G1)∧Runs X (10+10*h) 652 [.ref 3,cT vs k lp q,.int (.ofNat h),.int 1] (gst sc mix G1) (.flist [s],gst sc mix G2)∧Le' G G2∧GI G2∧Bn G2 b∧∀{sp S P},Spl X sp S→Fin' G2 P→GR X sp S P P.of.length (Qm P M q) (58+40*h) (60+(wt h+(0+0))) [t1 1 (tlam f),s,.tup [.int 10]]:=by
 obtain⟨f,G1,r1,m1,I1,b1,x1⟩:=grab_p (X:=X) (D:=9+10*h) (q:=q) (sc:=sc) (mix:=mix) (cr:=[.int k,.int (b2i lp),.int (b2i q)]) c I (b:=b+cs h+1) hb
 obtain⟨r2,m2,I2,b2,so⟩:=rows_1 (sc:=sc) (mix:=mix) (q:=q) (lp:=lp) (b:=b) T hn h0 (fun m hx=>QH (hm m hx) m1.num) (c.le m1) hv I1 b1
 exact⟨_,_,_,_,r1.le (by lia),r2,m1.trans m2,I2,b2,fun C F=>by
  obtain⟨_,_,_,_,g⟩:=so.gs C F
  exact gr_cons (fun lo=>(gs_expr F.env (by decide) ((x1 (F.le m2)).ge rfl rfl rfl) lo).up (by lia) (by lia)) (gr_cons g (gr_cons (fun lo=>(gs_brk (D:=0) (w:=0) lo).up (by lia) (Qd _)) gr_nil))⟩
end
section
variable {X:Wd}{D f b n h:Nat}{sc:List Int}{mix:Int}{G G1 G2 G3 G' G'':Gz}{M M':List Int}{vs ls:List Nat}{q lp d sl z w w0 bc:Bool}{P:RP}{e v s sp deep c3 u i t L c' dp nm so x y lv:V}{cr args as ys rs:List V}{l l' lid:Nat}{k c num lo at' rest:Int}{S:Int→Sg}{tl:Rho}{σ σ':Sg}
theorem m2b(v:Int):∃z:Bool,v % 2=b2i z:=(Int.emod_two_eq v).elim (fun h=>⟨false,h⟩) fun h=>⟨true,h⟩
theorem cfg_r{r1 r2:List V}{v:Int}:∃R,Cfg r1 r2 (sds (v % 3==0)) (sds (v % 3==1)) R:=by
 have:v % 3=0∨v % 3=1∨v % 3=2:=by lia
 rcases this with h|h|h<;>rw[h]
 ·exact⟨_,.a⟩
 ·exact⟨_,.b⟩
 ·exact⟨_,.n⟩
theorem switch_p(B:BigI X h G M num vs)(hv:vs.length+7*(h+1)+6≤40)(hb:Bn G (b+8*cs h+99)):StY X (dg h+8) sc mix G b M q lp (h+1) num vs 699 [.int (.ofNat h)]:=by
 refine Classical.byContradiction fun nk=>?_
 obtain⟨G1,r1,m1,I1,b1,e1⟩:=num_p (X:=X) (D:=dg h+6) (sc:=sc) (mix:=mix) B.I hb
 have hk:G.num+1≠0:=by have:=B.I.num;lia
 have kM:G.num+1∈(G.num+1)::M:=Qe
 have hm1:∀m∈(G.num+1)::M,m≤G1.num:=fun m hx=>(Qt.mp hx).elim (fun e=>by rw[e,e1];exact Qa _) fun hx=>QH (B.hm m hx) m1.num
 have c1:=(B.c.le m1).in (k:=G.num+1)
 obtain⟨a,G2,r2,m2,I2,b2⟩:=any_p (X:=X) (D:=dg h+6) (sc:=sc) (mix:=mix) I1 (b:=b+8*cs h+98) b1
 obtain⟨z,hz⟩:=m2b a
 have dgl:11+10*h+3≤dg h+7:=by unfold dg;lia
 obtain @⟨e,G3,r3,m3,I3,b3,xe⟩:=int_p (X:=X) (D:=11+10*h) (q:=q) (sc:=sc) (mix:=mix) (cr:=[.int (G.num+1),.int (b2i lp),.int (b2i q)]) (c1.le m2) I2 (b:=b+8*cs h+94) b2
 obtain⟨v,G4,r4,m4,I4,b4⟩:=any_p (X:=X) (D:=dg h+6) (sc:=sc) (mix:=mix) I3 (b:=b+8*cs h+93) b3
 have c4:=((c1.le m2).le m3).le m4
 obtain @⟨L1,l1,w1,G5,r5,m5,I5,b5,x1⟩:=label_p (X:=X) (D:=dg h+3) (sc:=sc) (mix:=mix) (q:=q) (lp:=lp) (z:=z) (at':=0) c4 kM hk (by lia) I4 (b:=b+8*cs h+85) b4
 obtain @⟨L2,l2,w2,G6,r6,m6,I6,b6,x2⟩:=label_p (X:=X) (D:=dg h+3) (sc:=sc) (mix:=mix) (q:=q) (lp:=lp) (z:=z) (at':=1) (c4.le m5) kM hk (by lia) I5 (b:=b+8*cs h+77) b5
 have mine:∃m G7,((w1||w2)=true∧m=0∧G7=G6∨(w1||w2)=false∧Runs X (dg h+7) 603 [.ref 3,.int (G.num+1)] (gst sc mix G6) (.int (.ofNat m),gst sc mix G7))∧Le' G6 G7∧GI G7∧Bn G7 (b+8*cs h+70)∧(m=0∨G7.of[m]?=some (.int (G.num+1))):=by
  cases hw:w1||w2 with
  |true=>exact⟨_,_,.inl ⟨rfl,rfl,rfl⟩,.refl,I6,by unfold Bn at *;lia,.inl rfl⟩
  |false=>
   obtain⟨G7,r7,m7,I7,b7,e7⟩:=var_p (X:=X) (D:=dg h+6) (sc:=sc) (mix:=mix) I6 (b:=b+8*cs h+70) (k:=G.num+1) (by unfold Bn at *;lia) hk
   exact⟨_,_,.inr ⟨rfl,r7⟩,m7,I7,b7,.inr (by rw[e7];exact Qx ..)⟩
 obtain⟨m,G7,hr7,m7,I7,b7,hm7⟩:=mine
 obtain⟨f1,hf1,hl1,hs1⟩:=fil_1 (ls:=[]) (n:=0) (xs:=[]) ((x1.le (m6.trans m7)).lv) .nil (Qd _) (fun _ h=>nomatch h)
 obtain⟨f1,hf1,hl1,hs1⟩:=fil_1 hm7 hf1 hl1 hs1
 obtain⟨f2,hf2,hl2,hs2⟩:=fil_1 (ls:=[]) (n:=0) (xs:=[]) ((x2.le m7).lv) .nil (Qd _) (fun _ h=>nomatch h)
 obtain⟨f2,hf2,hl2,hs2⟩:=fil_1 hm7 hf2 hl2 hs2
 have m07:=m2.trans (m3.trans (m4.trans (m5.trans (m6.trans m7))))
 have c7:=c1.le m07
 obtain⟨g1,s1,Ga,G8,ra1,rb1,m8,I8,b8,z1⟩:=swrow_p (X:=X) (q:=q) (sc:=sc) (mix:=mix) (lp:=lp) (b:=b+cs h+2) B.T kM hk (fun m hx=>Int.le_trans (hm1 m hx) m07.num) (c7.adds hs1 kM (by lia)) (by rw[List.length_append];lia) I7 (by unfold Bn at *;lia)
 obtain⟨g2,s2,Gb,G9,ra2,rb2,m9,I9,b9,z2⟩:=swrow_p (X:=X) (q:=q) (sc:=sc) (mix:=mix) (lp:=lp) (b:=b) B.T kM hk (fun m hx=>QH (hm1 m hx) (m07.trans m8).num) ((c7.adds hs2 kM (by lia)).le m8) (by rw[Qb];lia) I8 b8
 have mm:=m1.trans (m07.trans (m8.trans m9))
 have hl:∀{ls:List Nat},ls.length≤0+1+1→(lidV vs).length+(lidV ls).length≤LIM:=fun{ls} h=>by unfold lidV;rw[List.length_map,List.length_map];exact Nat.le_trans (Nat.add_le_add B.c.b h) (by decide)
 obtain⟨u1,ht1,oc1⟩:=sw_c (dp:=.int (.ofNat h)) (nm:=.int (G.num+1)) (so:=.int (b2i z)) (e:=e) (u:=.flist [.tup [.tup (L1::sds (v % 3==0)),.int (.ofNat l1)],.tup [.tup (L2::sds (v % 3==1)),.int (.ofNat l2)]]) (rest:=v % 3) (w0:=w1||w2) (at':=1) (x:=L2) (y:=.tup (L1::sds (v % 3==0))) (ys:=[]) .a hf1 (hl hl1) (ra1.le (by unfold dg;lia:10+10*h≤dg h+7)) (rb1.le (by unfold dg;lia:10+10*h≤dg h+7)) rfl
 obtain⟨u2,ht2,oc2⟩:=sw_c (dp:=.int (.ofNat h)) (nm:=.int (G.num+1)) (so:=.int (b2i z)) (e:=e) (u:=.flist [.tup [.tup (L1::sds (v % 3==0)),.int (.ofNat l1)],.tup [.tup (L2::sds (v % 3==1)),.int (.ofNat l2)]]) (rest:=v % 3) (w0:=w1||w2) (at':=1) (x:=L2) (y:=.tup (L2::sds (v % 3==1))) (ys:=[.tup [.tup (L1::sds (v % 3==0)),.tup [t1 1 (tlam g1),s1,.tup [.int 10]]]]) ht1 hf2 (hl hl2) (ra2.le (by unfold dg;lia:10+10*h≤dg h+7)) (rb2.le (by unfold dg;lia:10+10*h≤dg h+7)) rfl
 have rr:Runs X (dg h+8) 699 [.ref 3,cT vs num lp q,.int (.ofNat h)] (gst sc mix G) (tblk [tsw e [tsec L1 (sds (v % 3==0)) [t1 1 (tlam g1),s1,.tup [.int 10]],tsec L2 (sds (v % 3==1)) [t1 1 (tlam g2),s2,.tup [.int 10]]] m] (G.num+1),gst sc mix G9):=by
  have ro:Rounds X (dg h+7) (B1 9) swB [.int 0,.int 1] [(0,.v (.ref 3)),(1,.v (cT vs (G.num+1) lp q)),(2,.v (.int (.ofNat h))),(3,.v (.int (G.num+1))),(4,.v (.int (b2i z))),(5,.v e),(6,.o []),(7,.v (.int (v % 3))),(8,.v (.bool false))] (gst sc mix G4) (.next,swR (cT vs (G.num+1) lp q) (.int (.ofNat h)) (.int (G.num+1)) (.int (b2i z)) e [.tup [.tup (L1::sds (v % 3==0)),.int (.ofNat l1)],.tup [.tup (L2::sds (v % 3==1)),.int (.ofNat l2)]] (.int (v % 3)) (.bool (w1||w2)) (.int 1) [(12,.v L2),(13,.v (.tup (L2::sds (v % 3==1))))],gst sc mix G6):=.go rfl (sw_1 (D:=dg h+6) (rs:=[]) x1.vw r5 rfl rfl) .next (.go rfl (sw_2 (D:=dg h+6) x2.vw r6 rfl rfl) .next .nil)
  rcases hr7 with⟨hw,rfl,rfl⟩|⟨hw,r7⟩
  ·rw[hw]at oc1 oc2 ro
   exact .by 2200 rfl fun q=>q _ _ r1 _ _ r2 _ (bm hz rfl) _ _ (r3.le dgl) _ _ r4 _ (bm rfl rfl) _ _ _ ro _ _ _ (.go ⟨_,_,rfl,rfl⟩ oc1 .next (.go ⟨_,_,rfl,rfl⟩ oc2 .next .nil))
  ·rw[hw]at oc1 oc2 ro
   exact .by 2200 rfl fun q=>q _ _ r1 _ _ r2 _ (bm hz rfl) _ _ (r3.le dgl) _ _ r4 _ (bm rfl rfl) _ _ _ ro _ _ r7 _ _ _ (.go ⟨_,_,rfl,rfl⟩ oc1 .next (.go ⟨_,_,rfl,rfl⟩ oc2 .next .nil))
 refine nk (.mk rr mm I9 b9 (sok rfl rfl (w:=2+1+1+(2+1)+(2+1)+(60+(wt h+(0+0)))) (GSA.up (X:=X) (D:=76+40*h+10) (fun{sp S P} C F=>?_) (by unfold dd;lia) (Nat.le_refl _)) (by rw[wt_s];lia)))
 obtain⟨R,cf⟩:=cfg_r (r1:=[t1 1 (tlam g1),s1,.tup [.int 10]]) (r2:=[t1 1 (tlam g2),s2,.tup [.int 10]]) (v:=v)
 have F8:=F.le m9
 have F6:=F8.le (m7.trans m8)
 have ge:=(xe C (F6.le (m4.trans (m5.trans m6)))).le (by lia:20≤58+40*h)
 have g:GS X sp S P P.of.length (Qm P ((G.num+1)::M) q) (58+40*h+20) (2+1+1+(2+1)+(2+1)+(60+(wt h+(0+0)))) 9 (tsw e [tsec L1 (sds (v % 3==0)) [t1 1 (tlam g1),s1,.tup [.int 10]],tsec L2 (sds (v % 3==1)) [t1 1 (tlam g2),s2,.tup [.int 10]]] m):=by
  rcases hr7 with⟨hw,rfl,rfl⟩|⟨hw,r7⟩
  ·have hz:z=true:=(Bool.or_eq_true_iff.mp hw).elim (fun h=>by subst h;exact x1.zz) fun h=>by subst h;exact x2.zz
   subst hz
   exact gs_pick C F.env (by decide) (by decide) ge ((x1.le m6).lw kM C F6 (by lia)) (x2.lw kM C F6 (by lia)) hw (z1 C F8) (z2 C F) (show 3≤100 by decide) (show 3≤100 by decide) cf
  ·obtain⟨rfl,rfl⟩:=Bool.or_eq_false_iff.mp hw
   exact fun lo=>(gs_switch F.env (by decide) (hm7.imp (fun h=>h) fun lv=>by
    have lv:=pre_get F8.of (pre_get m8.of lv)
    refine⟨(Qc.mp lv).1,fun e=>?_,fun e=>?_⟩<;>subst e
    ·rw[F.env.of1]at lv;injection lv with e;injection e with e;exact hk e.symm
    ·rw[F.env.of2]at lv;injection lv with e;injection e with e;exact hk e.symm) ge ((x1.le m6).lq kM F6 (by lia)) (x2.lq kM F6 (by lia)) (z1 C F8) (z2 C F) (show 3≤100 by decide) (show 3≤100 by decide) cf lo).up (Qd _) (by lia)
 exact gs_block1 (D:=76+40*h) (k:=G.num+1) F.env (fun _=>qm_in hk) (fun _=>qm_up) rfl rfl fun lo=>(g lo).up (by lia) (Qd _)
end
inductive HdY(X:Wd)(D:Nat)(sc:List Int)(mix:Int)(G:Gz)(b:Nat)(M:List Int)(q lp:Bool)(h:Nat)(num:Int)(vs:List Nat):Prop
 |mk {r G'}:Runs X D 720 [.ref 3,cT vs num lp q,.int (.ofNat h)] (gst sc mix G) (r,gst sc mix G')→Le' G G'→GI G'→Bn G' b→(∀{w' rows sp S P},Spl X sp S→Fin' G' P→(∀lo,HY X sp S P P.of.length (Qm P M q) (dd h+8) w' rows lo)→∀lo,HY X sp S P P.of.length (Qm P M q) (dd h+8) (61+2*wt h+w') (r::rows) lo)→HdY X D sc mix G b M q lp h num vs
section
variable {α:Type}{j:Bool}{X:Wd}{D f b n m h:Nat}{sc:List Int}{mix:Int}{G G1 G2 G3 G' G'':Gz}{M M':List Int}{vs ls:List Nat}{q lp d sl z bc:Bool}{P:RP}{e v s sp deep c3 u i t L c' dp nm so x y lv:V}{cr args as ys rs pre hs rows:List V}{l l' lid w1 w2:Nat}{k c num lo hi at' rest:Int}{S:Int→Sg}{tl:Rho}{σ σ':Sg}{Q Q':Nat→Prop}{g:α→Prop}{SS:Bool→RW→α→RW→Prop}{RR:RW→α→RW→Prop}
theorem sx_q(hq:∀l,l < n→(Q l↔Q' l))(hn:Q n→Q' n)(h:SX j X P n Q D g m lo hi d pre SS RR):SX j X P n Q' D g m lo hi d pre SS RR:=by
 have e:(fun l=>l < n∧Q l)=(fun l=>l < n∧Q' l):=funext fun l=>propext ⟨fun a=>⟨a.1,(hq l a.1).mp a.2⟩,fun a=>⟨a.1,(hq l a.1).mpr a.2⟩⟩
 refine⟨fun m W T s=>?_,h.stop⟩
 have s0:=s.cne
 obtain⟨a,b,c⟩:=h.run m W T ⟨s.vs,s.vt,s.ss,s.st,s.log,s.hrd,s.hol,s.cau,s.h14,s.fit,e▸s.mp,fun h=>s.cne (hn h)⟩
 refine .mk a b ?_
 induction c with
 |go a b c d s v=>exact .go a b c d ⟨s.vs,s.vt,s.ss,s.st,s.log,s.hrd,s.hol,s.cau,s.h14,s.fit,e▸s.mp,fun h=>v.cau▸s0 h⟩ v
 |late a b c d e f g=>exact .late a b c d e f g
 |dead a b c=>exact .dead a b c
theorem gs_q(hq:∀l,l < n→(Q l↔Q' l))(hn:Q n→Q' n)(h:GS X sp S P n Q D m c s):GS X sp S P n Q' D m c s:=fun lo=>by
 obtain⟨a,b,x⟩:=h lo
 exact⟨a,b,sx_q hq hn x.r,x.bs,x.bt⟩
theorem qm_q:∀l,l < P.of.length→(Qm P M false l↔Qm P M q l):=fun l hl=>⟨fun h=>h.imp (fun h=>h) fun h=>absurd h.1 (Nat.ne_of_lt hl),fun h=>h.imp (fun h=>h) fun h=>absurd h.1 (Nat.ne_of_lt hl)⟩
theorem hy_up(h:HY X sp S P n Q D w1 rows lo)(l:w1≤w2):HY X sp S P n Q D w2 rows lo:=by
 obtain⟨a,b,x⟩:=h
 exact⟨a,b,x.wide l (Qa _) (Qa _)⟩
theorem rows_r(T:TurnH X h)(hn:num∈M)(h0:num≠0)(hm:∀m∈M,m≤G.num)(c:Cv G M vs)(hv:vs.length+7*(h+1)+1≤40)(I:GI G)(hb:Bn G (b+2*(cs h+1))){v:Int}:∃rs G',Runs X (10+10*h) 652 [.ref 3,cT vs num lp q,.int (.ofNat h),.int (1+v % 2)] (gst sc mix G) (.flist rs,gst sc mix G')∧Le' G G'∧GI G'∧Bn G' b∧1≤rs.length∧rs.length≤2∧∃w,w≤2*wt h∧∀{sp S P},Spl X sp S→Fin' G' P→GR X sp S P P.of.length (Qm P M q) (dd h+8) w rs:=by
 have up:∀{s G' sp S P},SOk X M q h num s G'→Spl X sp S→Fin' G' P→∃c,GS X sp S P P.of.length (Qm P M q) (dd h+8+2) (wt h) c s:=fun so C F=>(so.gs C F).elim fun c x=>x.elim fun _ x=>⟨c,fun lo=>(x.2.2 lo).up (by unfold dd;lia) (Nat.le_refl _)⟩
 rcases Int.emod_two_eq v with n|n<;>rw[n]
 ·obtain⟨r,m,I2,b2,so⟩:=rows_1 (sc:=sc) (mix:=mix) (q:=q) (lp:=lp) (b:=b) T hn h0 hm c (by lia) I (by unfold Bn at *;lia)
  exact⟨_,_,r,m,I2,b2,Qd 1,Qn 1,_,(by lia:wt h+0≤2*wt h),fun C F=>(up so C F).elim fun _ g=>gr_cons g gr_nil⟩
 ·obtain⟨r,m,I2,b2,so1,so2⟩:=rows_2 (sc:=sc) (mix:=mix) (q:=q) (lp:=lp) (b:=b) T hn h0 hm c hv I hb
  exact⟨_,_,r,m,I2,b2,Qn 1,Qd 2,_,(by lia:wt h+(wt h+0)≤2*wt h),fun C F=>(up so1 C F).elim fun _ g1=>(up so2 C F).elim fun _ g2=>gr_cons g1 (gr_cons g2 gr_nil)⟩
theorem kind_r{v:Int}:∃z,SubR σ (.tup [.int 16,.int (-1),.int 17]) (.int (v % 3)) (.int z)∧(z=16∨z=-1∨z=17):=by
 have:v % 3=0∨v % 3=1∨v % 3=2:=by lia
 rcases this with h|h|h<;>rw[h]
 ·exact⟨_,.nth (.tup _) rfl,.inl rfl⟩
 ·exact⟨_,.nth (.tup _) rfl,.inr (.inl rfl)⟩
 ·exact⟨_,.nth (.tup _) rfl,.inr (.inr rfl)⟩
theorem qm_t{q':Bool}:∀a,Qm P M q a→a < P.of.length→Qm P M q' a:=fun a h hl=>h.imp (fun h=>h) fun h=>absurd h.1 (Nat.ne_of_lt hl)
theorem handler_p(B:BigI X h G M num vs)(hv:vs.length+7*(h+1)+6≤40)(hb:Bn G (b+2*cs h+12)):HdY X (dg h+7) sc mix G b M q lp h num vs:=by
 obtain⟨G1,r1,m1,I1,b1,e1⟩:=num_p (X:=X) (D:=dg h+5) (sc:=sc) (mix:=mix) B.I hb
 have hk:G.num+1≠0:=by have:=B.I.num;lia
 have kM:G.num+1∈(G.num+1)::M:=Qe
 have hm1:∀m∈(G.num+1)::M,m≤G1.num:=fun m hx=>(Qt.mp hx).elim (fun e=>by rw[e,e1];exact Qa _) fun hx=>QH (B.hm m hx) m1.num
 have c1:=(B.c.le m1).in (k:=G.num+1)
 obtain⟨a,G2,r2,m2,I2,b2⟩:=any_p (X:=X) (D:=dg h+5) (sc:=sc) (mix:=mix) I1 (b:=b+2*cs h+11) b1
 have rest:∀{vs':List Nat} {l:Nat} {G3:Gz},Le' G2 G3→GI G3→Bn G3 (b+2*cs h+9)→Cv G3 ((G.num+1)::M) vs'→vs'.length≤vs.length+1→(l=0∨G3.of[l]?=some (.int (G.num+1)))→
   (∀{z u f rs v1 v2 v3 G4 G5 G6 G7 G8 G9},Runs X (dg h+6) 589 [.ref 3] (gst sc mix G3) (.int v1,gst sc mix G4)→((v1 % 3 != 0)=true∧u=.none∧G5=G4∨(v1 % 3 != 0)=false∧∃l0 G',Runs X (dg h+6) 617 [.ref 3,cT vs' (G.num+1) lp true] (gst sc mix G4) (l0,gst sc mix G')∧Runs X (dg h+6) 610 [.ref 3,.int 1,.flist [l0]] (gst sc mix G') (u,gst sc mix G5))→Runs X (dg h+6) 624 [.ref 3,cT vs' (G.num+1) lp true] (gst sc mix G5) (f,gst sc mix G6)→Runs X (dg h+6) 589 [.ref 3] (gst sc mix G6) (.int v2,gst sc mix G7)→Runs X (dg h+6) 652 [.ref 3,cT vs' (G.num+1) lp true,.int (.ofNat h),.int (1+v2 % 2)] (gst sc mix G7) (.flist rs,gst sc mix G8)→Nat.ble (1+rs.length) LIM=true→Runs X (dg h+6) 589 [.ref 3] (gst sc mix G8) (.int v3,gst sc mix G9)→SubR (gst sc mix G9) (.tup [.int 16,.int (-1),.int 17]) (.int (v3 % 3)) (.int z)→
    Runs X (dg h+7) 720 [.ref 3,cT vs num lp q,.int (.ofNat h)] (gst sc mix G) (.tup [.int z,.int (.ofNat l),u,tblk (t1 1 f::rs) (G.num+1)],gst sc mix G9))→HdY X (dg h+7) sc mix G b M q lp h num vs:=fun{vs' l G3} m3 I3 b3 c3 hvl hl k=>by
  obtain⟨v1,G4,r4,m4,I4,b4⟩:=any_p (X:=X) (D:=dg h+5) (sc:=sc) (mix:=mix) I3 (b:=b+2*cs h+8) b3
  have c4:=c3.le m4
  have tn:∃u G5,((v1 % 3 != 0)=true∧u=.none∧G5=G4∨(v1 % 3 != 0)=false∧∃l0 G',Runs X (dg h+6) 617 [.ref 3,cT vs' (G.num+1) lp true] (gst sc mix G4) (l0,gst sc mix G')∧Runs X (dg h+6) 610 [.ref 3,.int 1,.flist [l0]] (gst sc mix G') (u,gst sc mix G5))∧Le' G4 G5∧GI G5∧Bn G5 (b+2*cs h+7)∧∀{P},Fin' G5 P→GU X P P.of.length (Qm P ((G.num+1)::M) q) 20 0 u:=by
   cases hz:v1 % 3 != 0 with
   |true=>exact⟨_,_,.inl ⟨rfl,rfl,rfl⟩,.refl,I4,by unfold Bn at *;lia,fun F=>.no⟩
   |false=>
    obtain⟨l0,G',hl0,s1,n1,J1,d1⟩:=c4.loc (X:=X) (D:=dg h+4) (sc:=sc) (mix:=mix) (cr:=[.int (G.num+1),.int (b2i lp),.int (b2i true)]) I4 (b:=b+2*cs h+7) b4
    obtain⟨m,G5,s2,n2,J2,d2⟩:=call_p (X:=X) (D:=dg h+4) (sc:=sc) (mix:=mix) (k:=1) (args:=[tloc 7 l0]) J1 d1
    exact⟨_,_,.inr ⟨rfl,_,_,s1,s2⟩,n1.trans n2,J2,d2,fun F=>.yes rfl (GN.le (gn_call (D:=1) (as:=[tloc 7 l0]) (F.scp c4.z) (show 1≤LIM by decide) (ga_cons (gn_loc (D:=0) (F.live ((c4.le n1).le n2).s hl0)) ga_nil)) (by lia))⟩
  obtain⟨u,G5,hu,m5,I5,b5,xu⟩:=tn
  obtain⟨f,G6,r6,m6,I6,b6,xf⟩:=grab_p (X:=X) (D:=dg h+5) (q:=true) (sc:=sc) (mix:=mix) (cr:=[.int (G.num+1),.int (b2i lp),.int (b2i true)]) (c4.le m5) I5 (b:=b+2*cs h+6) b5
  obtain⟨v2,G7,r7,m7,I7,b7⟩:=any_p (X:=X) (D:=dg h+5) (sc:=sc) (mix:=mix) I6 (b:=b+2*cs h+5) b6
  have m37:=m4.trans (m5.trans (m6.trans m7))
  obtain⟨rs,G8,r8,m8,I8,b8,l1,l2,w,hw,x8⟩:=rows_r (X:=X) (sc:=sc) (mix:=mix) (q:=true) (lp:=lp) (b:=b+1) (v:=v2) B.T kM hk (fun m hx=>Int.le_trans (hm1 m hx) (m2.trans (m3.trans m37)).num) (c3.le m37) (by lia) I7 (by unfold Bn at *;lia)
  obtain⟨v3,G9,r9,m9,I9,b9⟩:=any_p (X:=X) (D:=dg h+5) (sc:=sc) (mix:=mix) I8 (b:=b) b8
  obtain⟨z,hz,hzz⟩:=kind_r (σ:=gst sc mix G9) (v:=v3)
  refine .mk (k r4 hu r6 r7 (r8.le (by unfold dg;lia)) (Nat.ble_eq.mpr (Nat.le_trans (Nat.add_le_add_left l2 1) (by decide))) r9 hz) (m1.trans (m2.trans (m3.trans (m37.trans (m8.trans m9))))) I9 b9 fun{w' rows sp S P} C F hr lo=>?_
  have F8:=F.le m9
  have F5:=F8.le (m6.trans (m7.trans m8))
  have F3:=F5.le (m4.trans m5)
  exact hy_up (hy_cons (hs:=t1 1 (tlam f)::rs) F.env (fun _=>qm_in hk) (fun _=>qm_up) (fun a=>qm_t a) (fun a h hl=>qm_up (qm_t a h hl)) (by rw[List.length_cons,Zd];lia) (by rw[List.length_cons];lia) hzz (hl.imp (fun h=>h) fun lv=>by
   have lv:=pre_get F3.of lv
   refine⟨(Qc.mp lv).1,fun e=>?_,fun e=>?_⟩<;>subst e
   ·rw[F.env.of1]at lv;injection lv with e;injection e with e;exact hk e.symm
   ·rw[F.env.of2]at lv;injection lv with e;injection e with e;exact hk e.symm) ((xu F5).up (by unfold dd;lia)) (gr_cons (w:=60) (fun lo=>(gs_expr F.env (by decide) ((xf (F8.le (m7.trans m8))).ge rfl rfl rfl) lo).up (by unfold dd;lia) (by lia)) (x8 C F8)) hr) (by lia)
 cases ha:a % 3 != 0 with
 |true=>
  obtain⟨G3,r3,m3,I3,b3,e3⟩:=var_p (X:=X) (D:=dg h+5) (sc:=sc) (mix:=mix) I2 (b:=b+2*cs h+9) (k:=G.num+1) (by unfold Bn at *;lia) hk
  have g3:2 < G2.of.length:=(Qc.mp I2.o2).1
  have hz:(Int.ofNat G2.of.length != 0)=true:=by rw[bne_iff_ne];show((G2.of.length:Nat):Int)≠0;lia
  have lv:G3.of[G2.of.length]?=some (.int (G.num+1)):=by rw[e3];exact Qx ..
  refine rest m3 I3 b3 (((c1.le m2).le m3).add lv kM (by lia)) (by rw[Qb];exact Qd _) (.inr lv) fun r4 hu r5 r6 r7 hl r8 hs=>?_
  unfold cT at hu r5 r7
  rw[lidV_app]at hu r5 r7
  rcases hu with⟨h,rfl,rfl⟩|⟨h,l0,G',s1,s2⟩
  ·exact .by 17309992 rfl fun q=>q _ _ r1 _ _ r2 true ha _ _ r3 true hz B.c.ble _ _ r4 true h _ _ r5 _ _ r6 _ _ r7 hl _ _ r8 _ hs
  ·exact .by 17309992 rfl fun q=>q _ _ r1 _ _ r2 true ha _ _ r3 true hz B.c.ble _ _ r4 false h _ _ s1 _ _ s2 _ _ r5 _ _ r6 _ _ r7 hl _ _ r8 _ hs
 |false=>
  refine rest .refl I2 (by unfold Bn at *;lia) (c1.le m2) (Nat.le_succ _) (l:=0) (.inl rfl) fun r4 hu r5 r6 r7 hl r8 hs=>?_
  rcases hu with⟨h,rfl,rfl⟩|⟨h,l0,G',s1,s2⟩
  ·exact .by 4327432 rfl fun q=>q _ _ r1 _ _ r2 false ha _ _ r4 true h _ _ r5 _ _ r6 _ _ r7 hl _ _ r8 _ hs
  ·exact .by 4327432 rfl fun q=>q _ _ r1 _ _ r2 false ha _ _ r4 false h _ _ s1 _ _ s2 _ _ r5 _ _ r6 _ _ r7 hl _ _ r8 _ hs
end
section
variable {X:Wd}{D f b n m h:Nat}{sc:List Int}{mix:Int}{G G1 G2 G3 G' G'':Gz}{M M':List Int}{vs ls:List Nat}{q lp d sl z bc:Bool}{P:RP}{e v s sp deep c3 u i t L c' dp nm so x y lv:V}{cr args as ys rs pre hs rows zs:List V}{l l' lid w1 w2:Nat}{k c num lo hi at' rest:Int}{S:Int→Sg}{tl:Rho}{σ σ':Sg}{Q Q':Nat→Prop}
theorem hds_p(hv:vs.length+7*(h+1)+6≤40):∀(k:Nat){G:Gz}{i:Int},BigI X h G M num vs→Bn G (b+k*(2*cs h+12))→∃zs G',Elts X (dg h+7) false 6 none (.call 720 (.cons (.var 0) (.cons (.var 1) (.cons (.var 2) .nil)))) [(0,.v (.ref 3)),(1,.v (cT vs num lp q)),(2,.v (.int (.ofNat h)))] (rng i k) (gst sc mix G) zs (gst sc mix G')∧Le' G G'∧GI G'∧Bn G' b∧zs.length=k∧∀{sp S P},Spl X sp S→Fin' G' P→∀lo,HY X sp S P P.of.length (Qm P M q) (dd h+8) (k*(61+2*wt h)) zs lo:=by
 intro k
 induction k with
 |zero=>exact fun B hb=>⟨_,_,.nil,.refl,B.I,by unfold Bn at *;lia,rfl,fun _ _ lo=>hy_up hy_nil (Nat.zero_le _)⟩
 |succ k ih=>
  intro G i B hb
  rw[Nat.succ_mul]at hb
  obtain⟨r,m1,I1,b1,x⟩:=handler_p (sc:=sc) (mix:=mix) (q:=q) (lp:=lp) (b:=b+k*(2*cs h+12)) B hv (by unfold Bn at *;lia)
  obtain⟨zs,G',el,m2,I2,b2,hl,y⟩:=ih (i:=i+1) (B.le m1 I1) b1
  refine⟨_::zs,G',.keep rfl (r_call (l_cons (r_var rfl) (l_cons (r_var rfl) (l_cons (r_var rfl) l_nil))) r) (fun h=>nomatch h) el,m1.trans m2,I2,b2,by rw[List.length_cons,hl],fun C F lo=>?_⟩
  exact hy_up (x C (F.le m2) (y C F) lo) (by rw[Nat.succ_mul];lia)
theorem try_p(B:BigI X h G M num vs)(hv:vs.length+7*(h+1)+6≤40)(hb:Bn G (b+8*cs h+99)):StY X (dg h+8) sc mix G b M q lp (h+1) num vs 725 [.int (.ofNat h)]:=by
 obtain @⟨a,G1,r1,m1,I1,b1,x1⟩:=B.blk (sc:=sc) (mix:=mix) (q:=q) (lp:=lp) (k:=num) (b:=b+6*cs h+90) (by unfold Bn at *;lia)
 have B1:=B.le m1 I1
 obtain⟨v,G2,r2,m2,I2,b2⟩:=any_p (X:=X) (D:=dg h+6) (sc:=sc) (mix:=mix) I1 (b:=b+6*cs h+89) b1
 have B2:=B1.le m2 I2
 have dgl:11+10*h≤dg h+7:=by unfold dg;lia
 have hk:∃k:Nat,v % 3=.ofNat k∧k≤2:=by
  have:v % 3=0∨v % 3=1∨v % 3=2:=by lia
  rcases this with h|h|h
  ·exact⟨0,h,by decide⟩
  ·exact⟨1,h,by decide⟩
  ·exact⟨2,h,by decide⟩
 obtain⟨k,hk,hk2⟩:=hk
 have kc:=Nat.mul_le_mul_right (2*cs h+12) hk2
 have kw:=Nat.mul_le_mul_right (61+2*wt h) hk2
 obtain⟨zs,G3,el,m3,I3,b3,hl,x3⟩:=hds_p (sc:=sc) (mix:=mix) (q:=q) (lp:=lp) (b:=b+2*cs h+60) hv k (i:=0) B2 (by unfold Bn at *;lia)
 have B3:=B2.le m3 I3
 have m03:=m1.trans (m2.trans m3)
 have fin:∀{u G'},Runs X (dg h+8) 725 [.ref 3,cT vs num lp q,.int (.ofNat h)] (gst sc mix G) (ttry a zs u,gst sc mix G')→Le' G3 G'→GI G'→Bn G' b→(∀{sp S P},Spl X sp S→Fin' G' P→LO X sp S P P.of.length (Qm P M q) (dd h+8) (2*wt h) u)→StY X (dg h+8) sc mix G b M q lp (h+1) num vs 725 [.int (.ofNat h)]:=fun r m I bb xu=>.mk r (m03.trans m) I bb (sok rfl rfl (w:=2*wt h+(k*(61+2*wt h)+2*wt h)) (GSA.up (X:=X) (D:=dd h+8+20) (fun{sp S P} C F=>gs_try (x1 C (F.le (m2.trans (m3.trans m)))) (by rw[hl];exact hk2) (fun lo=>x3 C (F.le m) lo) (xu C F)) (by lia) (Qd _)) (by rw[wt_s];lia))
 have last:∀{G4:Gz},Le' G3 G4→GI G4→Bn G4 (b+2*cs h+59)→∃u G',Runs X (dg h+7) 659 [.ref 3,cT vs num false false,.int (.ofNat h)] (gst sc mix G4) (u,gst sc mix G')∧Le' G3 G'∧GI G'∧Bn G' b∧(∀{sp S P},Spl X sp S→Fin' G' P→LO X sp S P P.of.length (Qm P M q) (dd h+8) (2*wt h) u):=fun m4 I4 b4=>by
  obtain⟨r,m,I,bb,x⟩:=(B3.le m4 I4).blk (sc:=sc) (mix:=mix) (q:=false) (lp:=false) (k:=num) (b:=b) (by unfold Bn at *;lia)
  exact⟨_,_,r.le dgl,m4.trans m,I,bb,fun C F=>.yes (gs_q qm_q (fun h=>h.imp (fun h=>h) fun h=>nomatch h.2) (x C F))⟩
 have hk':∃k',V.int (v % 3)=.int (.ofNat k')∧k'≤LIM∧rng 0 k=rng 0 k':=⟨k,congrArg V.int hk,Qf hk2 (by decide),rfl⟩
 cases he:zs.isEmpty with
 |true=>
  obtain⟨u,G',r4,m4,I4,b4,xu⟩:=last .refl I3 (by unfold Bn at *;lia)
  exact fin (.by 12 rfl fun q=>q _ _ (r1.le dgl) _ _ r2 _ _ _ _ hk' (.cons rfl (.cons rfl (.cons rfl .nil))) (.cons rfl (.cons rfl (.cons rfl .nil))) el _ (.eqn zs) true he _ _ r4) m4 I4 b4 xu
 |false=>
  obtain⟨v2,G4,r4,m4,I4,b4⟩:=any_p (X:=X) (D:=dg h+6) (sc:=sc) (mix:=mix) I3 (b:=b+2*cs h+59) b3
  cases ho:v2 % 2 != 0 with
  |true=>
   obtain⟨u,G',r5,m5,I5,b5,xu⟩:=last m4 I4 b4
   exact fin (.by 140 rfl fun q=>q _ _ (r1.le dgl) _ _ r2 _ _ _ _ hk' (.cons rfl (.cons rfl (.cons rfl .nil))) (.cons rfl (.cons rfl (.cons rfl .nil))) el _ (.eqn zs) false he _ _ r4 true ho _ _ r5) m5 I5 b5 xu
  |false=>exact fin (.by 140 rfl fun q=>q _ _ (r1.le dgl) _ _ r2 _ _ _ _ hk' (.cons rfl (.cons rfl (.cons rfl .nil))) (.cons rfl (.cons rfl (.cons rfl .nil))) el _ (.eqn zs) false he _ _ r4 false ho) m4 I4 (by unfold Bn at *;lia) fun C F=>.no
end
section
variable {X:Wd}{D f b n m h:Nat}{sc:List Int}{mix:Int}{G G1 G2 G3 G' G'':Gz}{M M':List Int}{vs ls:List Nat}{q lp:Bool}
theorem StY.big{num:Int}(m1:Le' G G1)(k:∀{s G2},Runs X (dg h+8) f [.ref 3,cT vs num lp q,.int (.ofNat h)] (gst sc mix G1) (s,gst sc mix G2)→Runs X (dg h+9) 732 [.ref 3,cT vs num lp q,.int (.ofNat h)] (gst sc mix G) (s,gst sc mix G2))(r:StY X (dg h+8) sc mix G1 b M q lp (h+1) num vs f [.int (.ofNat h)]):StY X (dg h+9) sc mix G b M q lp (h+1) num vs 732 [.int (.ofNat h)]:=by
 obtain⟨r,m,I,bb,s⟩:=r
 exact .mk (k r) (m1.trans m) I bb s
theorem big_p(T:TurnH X h)(hw:wt h≤400000):BigH X h:=fun{sc mix G b M q lp num vs} hn h0 hm c hv I hb=>by
 rw[cs_s]at hb
 have B:BigI X h G M num vs:=⟨T,hw,hm,c,by lia,I⟩
 obtain⟨v,G1,r1,m1,I1,b1⟩:=any_p (X:=X) (D:=dg h+7) (sc:=sc) (mix:=mix) I (b:=b+8*cs h+99) hb
 have B1:=B.le m1 I1
 rcases m10 v with h|h|h|h|h|h|h|h|h|h
 ·exact big_if B r1 h m1 I1 b1
 ·exact big_while B r1 h m1 I1 b1
 ·exact big_do B r1 h m1 I1 b1
 ·exact .big m1 (fun r=>.by 1 rfl fun q=>q _ _ r1 _ (bm h rfl) _ _ r) (doalone_p B1 hv b1)
 ·exact .big m1 (fun r=>.by 1 rfl fun q=>q _ _ r1 _ (bm h rfl) _ _ r) (for_p B1 hv b1)
 ·exact .big m1 (fun r=>.by 1 rfl fun q=>q _ _ r1 _ (bm h rfl) _ _ r) (for_p B1 hv b1)
 ·exact .big m1 (fun r=>.by 1 rfl fun q=>q _ _ r1 _ (bm h rfl) _ _ r) (each_p B1 hv b1)
 ·exact .big m1 (fun r=>.by 1 rfl fun q=>q _ _ r1 _ (bm h rfl) _ _ r) (switch_p B1 hv b1)
 ·exact .big m1 (fun r=>.by 1 rfl fun q=>q _ _ r1 _ (bm h rfl) _ _ r) (using_p B1 hv b1)
 ·exact .big m1 (fun r=>.by 1 rfl fun q=>q _ _ r1 _ (bm h rfl) _ _ r) (try_p B1 hv b1)
theorem turn4:TurnH X 4:=turnH_s (big_p (turnH_s (big_p (turnH_s (big_p (turnH_s (big_p turnH_0 (by decide))) (by decide))) (by decide))) (by decide))
end
noncomputable abbrev rp(sc:List Int)(mix:Int)(G:Gz)(x:Xt)(r:Bool):RP:=⟨r,G.of,G.wi,G.gr,gd sc mix G,x⟩
noncomputable abbrev s13(sc:List Int)(mix:Int)(G:Gz)(x:Xt):Sg:=.list G.of::.idict G.wi::.list G.gr::.sdict (gd sc mix G)::x.a::x.b::x.c::x.d::x.e::x.f::x.g::x.h::x.i::[]
noncomputable abbrev lpB:Ss:=.cons (.appr (.sub (.var 3) (.str 19)) (.call 739 (.cons (.var 3) (.cons (.bin .mod (.var 4) (.int 3)) .nil)))) .nil
noncomputable def W0(cs:List Int)(lids:List V):RW:=⟨cs,lids,0,[],false,[],[],[],0,[]⟩
noncomputable def c3(i:Int):List Int→Nat→List Int:=fun cs n=>@Nat.rec (fun _=>Int→List Int→List Int) (fun _ cs=>cs) (fun _ ih i cs=>ih (i+1) (cs++[i % 3])) n i cs
noncomputable def l3(k:Nat):List V→Nat→List V:=fun ls n=>@Nat.rec (fun _=>Nat→List V→List V) (fun _ ls=>ls) (fun _ ih k ls=>ih (k+1) (ls++[cref k])) n k ls
section
variable {X:Wd}{D n k:Nat}{sc cs:List Int}{mix i:Int}{G:Gz}{x:Xt}{r:Bool}{s f:V}{P:RP}{W W1:RW}{ls zs us:List V}{tl:Rho}
inductive TlI:Rho→Prop
 |a:TlI []
 |b (y):TlI [(4,.v y)]
theorem rd_turn(ht:TlI tl)(hl:ls.length < LIM):∃ρ,B1 4 (.int i) ((0,.v (.ref 3))::(1,.v s)::(2,.v (.bool r))::(3,.v (.ref 19))::tl) ρ∧OkB X (D+1) lpB ρ (rs P (W0 cs ls)) (.next,[(0,.v (.ref 3)),(1,.v s),(2,.v (.bool r)),(3,.v (.ref 19)),(4,.v (.int i))],rs P (W0 (cs++[i % 3]) (ls++[cref cs.length]))):=by
 induction ht<;>exact⟨_,rfl,.by 32 fun q=>q _ _ fresh_ok (Qs.mpr hl)⟩
theorem rd_loop:∀{n:Nat}{i:Int}{cs:List Int}{ls:List V}{tl:Rho},TlI tl→ls.length+n≤LIM→∃tl',TlI tl'∧Rounds X (D+1) (B1 4) lpB (rng i n) ((0,.v (.ref 3))::(1,.v s)::(2,.v (.bool r))::(3,.v (.ref 19))::tl) (rs P (W0 cs ls)) (.next,(0,.v (.ref 3))::(1,.v s)::(2,.v (.bool r))::(3,.v (.ref 19))::tl',rs P (W0 (c3 i cs n) (l3 cs.length ls n))):=by
 intro n
 induction n with
 |zero=>exact fun ht _=>⟨_,ht,.nil⟩
 |succ n ih=>
  intro i cs ls tl ht hl
  obtain⟨ρ,hb,ok⟩:=rd_turn (X:=X) (D:=D) (s:=s) (r:=r) (P:=P) (cs:=cs) (i:=i) ht (by lia:ls.length < LIM)
  obtain⟨tl',ht',ro⟩:=ih (i:=i+1) (cs:=cs++[i % 3]) (ls:=ls++[cref cs.length]) (.b (.int i)) (by rw[Qb,Qu];lia)
  rw[Qb]at ro
  exact⟨_,ht',.go hb ok .next ro⟩
noncomputable abbrev fl5(b:Bool)(f:V):V:=@Bool.rec (fun _=>V) f (.tup [.int 5,.none]) b
theorem read_p(hG:G.of.length≤LIM)(ex:Runs X (D+1) 870 [.ref 19,s] (rs (rp sc mix G x r) (W0 (c3 0 [] G.of.length) (l3 0 [] G.of.length))) (f,rs (rp sc mix G x r) W1))(h3:3≤W1.lids.length)(hz:F2 (fun y z=>SubR (rs (rp sc mix G x r) W1) y (.int 0) z) W1.cells zs)(hu:F2 (fun y z=>SubR (rs (rp sc mix G x r) W1) y (.int 0) z) ((W1.lids.take 3).drop 1) us):Runs X (D+2) 882 [.ref 3,s,.bool r] (s13 sc mix G x) (.tup [.ref 13,fl5 W1.stop f,.flist zs,.flist us],rs (rp sc mix G x r) W1):=by
 obtain⟨tl,ht,ro⟩:=rd_loop (X:=X) (D:=D) (s:=s) (r:=r) (P:=rp sc mix G x r) (n:=G.of.length) (i:=0) (cs:=[]) (ls:=[]) .a (by rw[List.length_nil];lia)
 have hb:Nat.ble G.of.length LIM=true:=QR.mpr hG
 have h3':(Nat.ble 1 3&&Nat.ble 3 W1.lids.length)=true:=QR.mpr h3
 cases st:W1.stop with
 |true=>cases ht<;>exact .by 67968 rfl fun q=>q hb _ _ _ ro _ _ ex true st _ _ _ (.ls rfl) hz h3' _ _ _ (.fl _) hu
 |false=>cases ht<;>exact .by 67968 rfl fun q=>q hb _ _ _ ro _ _ ex false st _ _ _ (.ls rfl) hz h3' _ _ _ (.fl _) hu
end
theorem rg_3(i:Int):rg (i % 3):=⟨by lia,by lia⟩
theorem c3_ok:∀{n:Nat}{i:Int}{cs:List Int},(∀c∈cs,rg c)→(c3 i cs n).length=cs.length+n∧∀c∈c3 i cs n,rg c:=by
 intro n
 induction n with
 |zero=>exact fun h=>⟨rfl,h⟩
 |succ n ih=>
  intro i cs h
  obtain⟨a,b⟩:=ih (i:=i+1) (cs:=cs++[i % 3]) fun c hc=>(QI.mp hc).elim (h c) fun e=>Qk.mp e▸rg_3 i
  rw[Qb,Qu]at a
  exact⟨a.trans (by lia),b⟩
theorem l3_ok:∀{n:Nat}{ls:List V},(∀l,l < ls.length→ls[l]?=some (cref l))→(l3 ls.length ls n).length=ls.length+n∧∀l,l < ls.length+n→(l3 ls.length ls n)[l]?=some (cref l):=by
 intro n
 induction n with
 |zero=>exact fun h=>⟨rfl,h⟩
 |succ n ih=>
  intro ls h
  obtain⟨a,b⟩:=ih (ls:=ls++[cref ls.length]) fun l hl=>by
   rw[Qb,Qu]at hl
   rcases Nat.lt_or_ge l ls.length with q|q
   ·rw[Qp q];exact h l q
   ·obtain rfl:l=ls.length:=by lia
    exact Qx ..
  rw[Qb,Qu]at a b
  exact⟨a.trans (by lia),fun l hl=>b l (by lia)⟩
noncomputable abbrev Wi(n:Nat):RW:=W0 (c3 0 [] n) (l3 0 [] n)
section
variable {n m:Nat}{Q:Nat→Prop}
theorem wi_c:(c3 0 [] n).length=n∧∀c∈c3 0 [] n,rg c:=by
 have h:=c3_ok (n:=n) (i:=0) (cs:=[]) fun _ h=>nomatch h
 exact⟨h.1.trans (Nat.zero_add n),h.2⟩
theorem wi_l:(l3 0 [] n).length=n∧∀l,l < n→(l3 0 [] n)[l]?=some (cref l):=by
 have h:=l3_ok (n:=n) (ls:=[]) fun _ h=>absurd h (Nat.not_lt_zero _)
 exact⟨h.1.trans (Nat.zero_add n),fun l hl=>h.2 l (by rw[List.length_nil];lia)⟩
theorem vd_i(h:3≤n):Vd n (Wi n):=⟨h,wi_l.1,fun v hv=>by
 obtain⟨l,hl⟩:=QG.mp hv
 have q:l < n:=Nat.lt_of_lt_of_eq (Qc.mp hl).1 wi_l.1
 obtain rfl:=sij ((wi_l.2 l q).symm.trans hl)
 exact⟨wi_c.1.symm▸q⟩,wi_c.2,rg0,fun _ h=>(nomatch h),fun _ h=>(nomatch h),fun _ _ h=>(nomatch h),rfl,fun _ h=>nomatch h⟩
theorem simu_i(h:3≤n)(hm:m≤1000000)(hq:¬Q n):Simu n Q m (Wi n) (Wi n):=⟨vd_i h,vd_i h,rfl,rfl,rfl,rfl,rfl,rfl,⟨Qa _,show(0:Int)≤14 by decide⟩,by show(0:Int)+0+0+0+m≤1000000*(0+1);lia,⟨id,⟨fun _ _ e=>e,fun _ _ _ _ e=>e,fun l q=>⟨l,wi_c.1.symm▸q.1,wi_l.2 l q.1,wi_l.2 l q.1⟩,fun _ _=>rfl,⟨[],rfl,rfl⟩⟩⟩,fun q=>absurd q hq⟩
end
inductive Dt(n:Nat)(v:V):Prop
 |mk {d}:Pd v d→d.canLay0=true→d.depth≤n→Dt n v
inductive Dts(n:Nat)(vs:List V):Prop
 |mk {ds}:F2 Pd vs ds→PyData.canLayAll0 ds=true→PyData.depthAll ds≤n→Dts n vs
theorem Dts.of{n:Nat}{vs:List V}:(∀v∈vs,Dt n v)→Dts n vs:=by
 induction vs with
 |nil=>exact fun _=>⟨.nil,rfl,QC _⟩
 |cons v vs ih=>
  intro h
  obtain⟨a,b,c⟩:=h v Qe
  obtain⟨a',b',c'⟩:=ih fun v hv=>h v (Qg _ hv)
  exact⟨.cons a a',Qq.mpr ⟨b,b'⟩,Nat.max_le.mpr ⟨c,c'⟩⟩
theorem dt_int{i:Int}:Dt 0 (.int i):=⟨.int i,rfl,Qd _⟩
theorem str_ok36:∀n:Fin 36,PyData.strOk (kn n)=true:=by decide +kernel
theorem str_ok(k:Nat):PyData.strOk (kn k)=true:=by
 rcases Nat.lt_or_ge k 36 with h|h
 ·exact str_ok36 ⟨k,h⟩
 ·unfold kn
  rw[List.getD_eq_getElem?_getD,QS h]
  decide +kernel
theorem dt_str{k:Nat}:Dt 0 (.str k):=⟨.str k,str_ok k,Qd _⟩
theorem Dts.tup{n:Nat}{vs:List V}(h:Dts n vs):Dt (n+1) (.tup vs):=by
 obtain⟨a,b,c⟩:=h
 exact⟨.tup a,b,Qv c⟩
theorem Dts.fl{n:Nat}{vs:List V}(h:Dts n vs):Dt (n+1) (.flist vs):=by
 obtain⟨a,b,c⟩:=h
 exact⟨.fl a,b,Qv c⟩
theorem Dt.up{n m:Nat}{v:V}(h:Dt n v)(l:n≤m):Dt m v:=by
 obtain⟨a,b,c⟩:=h
 exact⟨a,b,Qf c l⟩
theorem dts_ints(is:List Int):Dts 0 (is.map .int):=.of fun v hv=>by
 obtain⟨i,_,rfl⟩:=List.mem_map.mp hv
 exact dt_int
theorem RwD.dt{r:V}(h:RwD r):Dt 2 r:=by
 induction h with
 |one=>exact(Dts.tup (n:=0) (.of fun v hv=>(Qt.mp hv).elim (fun e=>e▸dt_str) fun hv=>Qk.mp hv▸dt_int)).up (by decide)
 |row is=>exact Dts.tup (n:=1) (.of fun v hv=>(Qt.mp hv).elim (fun e=>e▸dt_str.up (QC _)) fun hv=>(Qt.mp hv).elim (fun e=>e▸dt_int.up (QC _)) fun hv=>Qk.mp hv▸(dts_ints is).fl)
theorem eqv_refl'{d:PyData}(h:d.canLay0=true):PyData.eqv d d=true:=PySem.SeqAt.eqv_refl d h
theorem res_eq{σ:Sg}{a b:Nat}{l:List V}{f:V}{zs us:List Int}(ha:σ[a]?=some (.list l))(hb:σ[b]?=some (.list l))(hl:∀r∈l,RwD r)(hf:Dt 2 f):EqR σ (.tup [.ref a,f,.flist (zs.map .int),.flist (us.map .int)]) (.tup [.ref b,f,.flist (zs.map .int),.flist (us.map .int)]) true:=by
 obtain @⟨ds,p1,q1,d1⟩:=Dts.of fun r hr=>(hl r hr).dt
 obtain @⟨df,p2,q2,d2⟩:=hf
 obtain @⟨dz,p3,q3,d3⟩:=(dts_ints zs).fl
 obtain @⟨du,p4,q4,d4⟩:=(dts_ints us).fl
 have c:(PyData.tuple [.list ds,df,dz,du]).canLay0=true:=Qq.mpr ⟨q1,Qq.mpr ⟨q2,Qq.mpr ⟨q3,Qq.mpr ⟨q4,rfl⟩⟩⟩⟩
 have dd:(PyData.tuple [.list ds,df,dz,du]).depth≤64:=Qf (Qv (Nat.max_le.mpr ⟨Qv d1,Nat.max_le.mpr ⟨Qf d2 (by decide:2≤3),Nat.max_le.mpr ⟨Qf d3 (by decide:0+1≤3),Nat.max_le.mpr ⟨Qf d4 (by decide:0+1≤3),QC _⟩⟩⟩⟩)) (by decide)
 have sh:SeqAt.shaped (PyData.tuple [.list ds,df,dz,du])=true:=Qq.mpr ⟨c,QZ dd⟩
 have e:=EqR.data (σ:=σ) (.tup (.cons (.ls ha p1) (.cons (.pd p2) (.cons (.pd p3) (.cons (.pd p4) .nil))))) (.tup (.cons (.ls hb p1) (.cons (.pd p2) (.cons (.pd p3) (.cons (.pd p4) .nil))))) sh sh
 exact eqv_refl' c▸e
theorem dt_none:Dt 0 .none:=⟨.none,rfl,Qd _⟩
theorem dt_flow{k:Int}{v:V}(h:Dt 0 v):Dt 2 (flow k v):=(Dts.tup (n:=0) (.of fun u hu=>(Qt.mp hu).elim (fun e=>e▸dt_int) fun hu=>Qk.mp hu▸h)).up (by decide)
theorem Fv.dt{f:V}(h:Fv f):Dt 2 f:=by
 induction h with
 |ret=>exact dt_flow dt_int
 |thr=>exact dt_flow dt_int
 |_=>exact dt_flow dt_none
theorem Fv.dt5{f:V}{b:Bool}(h:Fv f):Dt 2 (fl5 b f):=by
 induction b with
 |true=>exact dt_flow dt_none
 |false=>exact h.dt
inductive Both(X:Wd)(D:Nat)(P:RP)(n:Nat)(W T:RW)(s t:V):Prop
 |mk {x y W' T'}:Xs X D (rd false P) s W x W'→Xs X D (rd true P) t T y T'→Vd n W'→Vd n T'→Fv x→fl5 W'.stop x=fl5 T'.stop y→Ob W'=Ob T'→Both X D P n W T s t
section
variable {X:Wd}{D n m w:Nat}{P:RP}{Q:Nat→Prop}{W T:RW}{s t:V}{lo hi c:Int}
theorem XS.both(h:XS X P n Q D w lo hi c s t)(h1:Q 1)(h2:Q 2)(S:Simu n Q (m+w) W T):Both X D P n W T s t:=by
 obtain @⟨x,W',a,g,o⟩:=h.r.run m W T S
 induction o with
 |go r _ _ a2 s2 _=>
  cases r
  exact .mk a a2 s2.vs s2.vt g (by rw[s2.ss,s2.st]) (s2.obs h1 h2)
 |late r _ _ a2 _ f _=>
  cases r
  exact .mk a a2 f.vs f.vt g (by rw[f.ss,f.st]) f.ob
 |dead r _ f=>
  cases r
  exact absurd (S.st.symm.trans f.st) QQ
end
section
variable {X:Wd}{D n:Nat}{P:RP}{W T:RW}
theorem cell_0{i:Nat}{c:Int}(hc:W.cs[i]?=some c):SubR (rs P W) (cref i) (.int 0) (.int c):=.nth (j:=0) (.ls (cells_get hc)) rfl
theorem cells_v{ys:List V}:(∀v∈ys,CellIn W.cs v)→∃zs:List Int,ys.map (cv W.cs)=zs.map some∧F2 (fun y z=>SubR (rs P W) y (.int 0) z) ys (zs.map .int):=by
 induction ys with
 |nil=>exact fun _=>⟨[],rfl,.nil⟩
 |cons y ys ih=>
  intro h
  obtain⟨zs,e,f⟩:=ih fun v hv=>h v (Qg _ hv)
  obtain @⟨i,hi⟩:=h y Qe
  have hc:W.cs[i]?=some W.cs[i]:=Qj hi
  exact⟨W.cs[i]::zs,congr (congrArg List.cons hc) e,.cons (cell_0 hc) f⟩
inductive ValR(P:RP)(W:RW)(zs us:List Int):Prop
 |mk:3≤W.lids.length→F2 (fun y z=>SubR (rs P W) y (.int 0) z) W.cells (zs.map .int)→F2 (fun y z=>SubR (rs P W) y (.int 0) z) ((W.lids.take 3).drop 1) (us.map .int)→ValR P W zs us
theorem map_some{xs ys:List Int}(h:xs.map some=ys.map some):xs=ys:=by
 have:=congrArg (List.map fun o:Option Int=>o.getD 0) h
 rw[List.map_map,List.map_map]at this
 have e:((fun o:Option Int=>o.getD 0)∘some)=id:=rfl
 rw[e,List.map_id,List.map_id]at this
 exact this
theorem lids_3{l:List V}{a b:V}(h1:l[1]?=some a)(h2:l[2]?=some b):(l.take 3).drop 1=[a,b]:=by
 match l,h1,h2 with
 |_::_::_::_,rfl,rfl=>rfl
theorem Vd.vals(h:Vd n W):∃zs c d,W.cells.map (cv W.cs)=zs.map some∧W.lids[1]?.map (cv W.cs)=some (some c)∧W.lids[2]?.map (cv W.cs)=some (some d)∧ValR P W zs [c,d]:=by
 obtain⟨zs,e,f⟩:=cells_v (P:=P) h.cel
 have n3:=h.n3
 obtain⟨i,c,a1,a2,_⟩:=h.look (l:=1) (by lia)
 obtain⟨j,d,b1,b2,_⟩:=h.look (l:=2) (by lia)
 exact⟨zs,c,d,e,by rw[a1];exact congrArg some a2,by rw[b1];exact congrArg some b2,⟨h.len.symm▸h.n3,f,by rw[lids_3 a1 b1];exact .cons (cell_0 a2) (.cons (cell_0 b2) .nil)⟩⟩
theorem ob_vals{P':RP}(h:Vd n W)(k:Vd n T)(o:Ob W=Ob T):W.log=T.log∧∃zs us,ValR P W zs us∧ValR P' T zs us:=by
 obtain⟨zs,c,d,e1,e2,e3,v⟩:=h.vals (P:=P)
 obtain⟨zs',c',d',f1,f2,f3,v'⟩:=k.vals (P:=P')
 unfold Ob at o
 injection o with o1 o
 injection o with o2 o
 injection o with o3 o4
 obtain rfl:=map_some (e1.symm.trans (o2.trans f1))
 obtain rfl:c=c':=sij (sij (e2.symm.trans (o3.trans f2)))
 obtain rfl:d=d':=sij (sij (e3.symm.trans (o4.trans f3)))
 exact⟨o1,zs,_,v,v'⟩
end
inductive Rd2(X:Wd)(D:Nat)(sc:List Int)(mix:Int)(G:Gz)(x:Xt)(s t:V):Prop
 |mk {f W T}{zs us:List Int}:Runs X D 882 [.ref 3,s,.bool false] (s13 sc mix G x) (.tup [.ref 13,f,.flist (zs.map .int),.flist (us.map .int)],rs (rp sc mix G x false) W)→Runs X D 882 [.ref 3,t,.bool true] (s13 sc mix G x) (.tup [.ref 13,f,.flist (zs.map .int),.flist (us.map .int)],rs (rp sc mix G x true) T)→W.log=T.log→(∀r∈W.log,RwD r)→Dt 2 f→(∀μ,ren μ f=f)→Rd2 X D sc mix G x s t
section
variable {X:Wd}{D:Nat}{sc:List Int}{mix:Int}{G:Gz}{x:Xt}{s t:V}
theorem Fv.ren{f:V}{b:Bool}(h:Fv f)(μ:Nat→Nat):ren μ (fl5 b f)=fl5 b f:=by
 induction b with
 |true=>rfl
 |false=>induction h<;>rfl
theorem Both.rd2(hG:G.of.length≤LIM)(h:Both X (D+1) (rp sc mix G x false) G.of.length (Wi G.of.length) (Wi G.of.length) s t):Rd2 X (D+2) sc mix G x s t:=by
 obtain @⟨f,g,W,T,a,b,v,k,fv,e,o⟩:=h
 obtain⟨l,zs,us,⟨p1,p2,p3⟩,⟨q1,q2,q3⟩⟩:=ob_vals (P:=rp sc mix G x false) (P':=rp sc mix G x true) v k o
 have r1:=read_p hG a p1 p2 p3
 have r2:=read_p hG b q1 q2 q3
 rw[← e]at r2
 exact .mk r1 r2 l v.lgd fv.dt5 fv.ren
end
noncomputable def kR:List V:=(rng 0 16).map fun v=>.tup [.int 1,v]
noncomputable def kI:List (V × V):=(rng 0 16).map fun v=>(.tup [.int 1,v],v)
noncomputable def kc(i:Int):List V:=(rng 0 16).map fun _=>.int i
noncomputable abbrev kr(n:Int):V:=.tup [.int 2,.int n,.tup []]
noncomputable abbrev kA(n:Nat):MObj:=.adict [(29,.ref (n+2)),(30,.ref (n+3)),(31,.ref (n+4)),(32,.ref (n+5)),(33,.ref (n+6))]
noncomputable abbrev K0(tl:Sg):Sg:=kA 0::.inst 91 0::.list kR::.tdict kI::.list (kc 1)::.list (kc 1)::.list (kc 0)::tl
noncomputable abbrev K1(tl:Sg):Sg:=kA 0::.inst 91 0::.list (kR++[kr 72])::.tdict (kI++[(kr 72,.int 16)])::.list (kc 1++[.int 1])::.list (kc 1++[.int 1])::.list (kc 0++[.int 0])::tl
noncomputable abbrev K2(tl:Sg):Sg:=kA 0::.inst 91 0::.list ((kR++[kr 72])++[kr 73])::.tdict ((kI++[(kr 72,.int 16)])++[(kr 73,.int 17)])::.list ((kc 1++[.int 1])++[.int 1])::.list ((kc 1++[.int 1])++[.int 1])::.list ((kc 0++[.int 0])++[.int 0])::tl
section
variable {X:Wd}{D:Nat}{tl σ:Sg}{n:Int}
theorem k_init:Runs X (D+1) 74 [.ref 1] [.adict [],.inst 91 0] (.none,K0 []):=.by 0 rfl fun q=>q
theorem k_102:Runs X (D+1) 102 [kr n] σ (.tup [],σ):=.by 0 rfl fun q=>q
theorem k_123(h1:decide (n≤0)=false)(h2:(lookA (placeTab 2) n).isSome=false):Runs X (D+3) 123 [.ref 1,kr n] σ (.none,σ):=
 .by 0 rfl fun q=>q _ _ (.by 0 rfl fun q=>q) _ _ k_102 _ _ (.by 36 rfl fun q=>q false h1 false h2 _ _ (.by 0 rfl fun q=>q))
theorem k_109:Runs X (D+1) 109 [.int 2] σ (.int 1,σ):=.by 0 rfl fun q=>q
theorem k_put1:Runs X (D+4) 88 [.ref 1,kr 72] (K0 tl) (.int 16,K1 tl):=.by 0 rfl fun q=>q _ _ (k_123 rfl rfl) _ _ k_109 _ _ k_102
theorem k_put2:Runs X (D+4) 88 [.ref 1,kr 73] (K1 tl) (.int 17,K2 tl):=.by 0 rfl fun q=>q _ _ (k_123 rfl rfl) _ _ k_109 _ _ k_102
end
theorem app_at{α:Type}{a b:List α}{i:Nat}{o:α}(h:(a++b)[i]?=some o):a[i]?=some o∨∃k,i=a.length+k∧b[k]?=some o:=by
 rcases Nat.lt_or_ge i a.length with q|q
 ·exact .inl ((Qp q).symm.trans h)
 ·exact .inr ⟨i - a.length,(Nat.add_sub_cancel' q).symm,(List.getElem?_append_right q).symm.trans h⟩
theorem at_app{α:Type}{a b:List α}{k:Nat}:(a++b)[a.length+k]?=b[k]?:=by
 rw[List.getElem?_append_right (Qw _ _),Nat.add_sub_cancel_left]
noncomputable abbrev Al3(σ:Sg):Prop:=∀o∈σ,Pl3 o
theorem al_cons{o:MObj}{σ:Sg}(h:Pl3 o)(k:Al3 σ):Al3 (o::σ):=fun _ hx=>(Qt.mp hx).elim (fun e=>e▸h) (k _)
theorem al_nil:Al3 []:=fun _ h=>nomatch h
structure BlG(G:Gz):Prop where
 e:∀μ μ':Nat→Nat,(∀i,i < 4→μ i=μ' i)→G.of.map (ren μ)=G.of.map (ren μ')∧renP μ G.wi=renP μ' G.wi∧G.gr.map (ren μ)=G.gr.map (ren μ')
noncomputable abbrev m7(i:Nat):Nat:=i+7
section
variable {sc:List Int}{mix:Int}{G:Gz}{J J2 T:Sg}{N j i:Nat}{o:MObj}{x x' y:Xt}{μ μ':Nat→Nat}
theorem bls_g(h:BlS (gst sc mix G)):BlG G:=⟨fun μ μ' e=>by
 have h:=h μ μ' e
 injection h with h1 h
 injection h with h2 h
 injection h with h3 h
 injection h1 with h1
 injection h2 with h2
 injection h3 with h3
 exact⟨h1,h2,h3⟩⟩
theorem ren_ints{is:List Int}:(is.map V.int).map (ren μ)=is.map .int:=List.map_map
theorem ren_int3{is:List Int}:renL μ (is.map .int)=is.map .int:=(ren_l μ _).trans ren_ints
theorem BlG.g4(h:BlG G)(e:∀i,i < 4→μ i=μ' i):(gst sc mix G).map (renO μ)=(gst sc mix G).map (renO μ'):=by
 obtain⟨h1,h2,h3⟩:=h.e μ μ' e
 have f:∀{A A' C C' S S':List V} {B B':List (Int × V)} {a a' b b' c c':Nat},A=A'→B=B'→C=C'→S=S'→a=a'→b=b'→c=c'→∀D:List V→V→V→V→List (Nat × V),[MObj.list A,.idict B,.list C,.sdict (D S (.ref a) (.ref b) (.ref c))]=[.list A',.idict B',.list C',.sdict (D S' (.ref a') (.ref b') (.ref c'))]:=by
  rintro _ _ _ _ _ _ _ _ _ _ _ _ _ _ rfl rfl rfl rfl rfl rfl rfl _
  rfl
 exact f h1 h2 h3 (ren_int3.trans ren_int3.symm) (e 0 (by decide)) (e 1 (by decide)) (e 2 (by decide)) fun s a b c=>[(0,.flist s),(1,.int G.at'),(2,.int mix),(3,.int G.num),(4,a),(5,b),(6,c),(7,.int G.left),(8,.int 16),(9,.int 17)]
noncomputable abbrev G4(sc:List Int)(mix:Int)(G:Gz):Sg:=(gst sc mix G).map (renO m7)
noncomputable abbrev BL(k:Xt)(sc:List Int)(mix:Int)(G:Gz)(J:Sg):Sg:=k.a::k.b::k.c::k.d::k.e::k.f::k.g::(G4 sc mix G++J)
noncomputable abbrev BG(y:Xt)(sc:List Int)(mix:Int)(G:Gz)(J J2:Sg):Sg:=BL y sc mix G (J++y.h::y.i::J2)
noncomputable abbrev xl(x:Xt):Sg:=[x.a,x.b,x.c,x.d,x.e,x.f,x.g,x.h,x.i]
noncomputable abbrev ps4:List Nat:=[7,8,9,10]
noncomputable abbrev ps11:List Nat:=[7,8,9,10,0,1,2,3,4,5,6]
noncomputable abbrev ps13(J:Sg):List Nat:=ps11++[J.length+11,J.length+12]
theorem al_g:Al3 (gst sc mix G):=al_cons (.l _) (al_cons (.i _) (al_cons (.l _) (al_cons (.s _) al_nil)))
theorem g_at(e:BlG G)(hm:∀i,i < 4→m7 i=μ i)(h:(gst sc mix G)[i]?=some o):i < 4∧(G4 sc mix G)[i]?=some (renO μ o):=by
 refine⟨(Qc.mp h).1,?_⟩
 unfold G4
 rw[e.g4 hm,QJ,h];rfl
theorem lt4{p:Nat→Prop}(h0:p 0)(h1:p 1)(h2:p 2)(h3:p 3):∀i,i < 4→p i
 |0,_=>h0
 |1,_=>h1
 |2,_=>h2
 |3,_=>h3
theorem bl_at{k:Xt}:i < 4→(BL k sc mix G J)[mu ps4 N i]?=(G4 sc mix G)[i]?:=lt4 (p:=fun i=>(BL k sc mix G J)[mu ps4 N i]?=(G4 sc mix G)[i]?) rfl rfl rfl rfl i
theorem mu4 {N}:∀i,i < 4→m7 i=mu ps4 N i:=lt4 rfl rfl rfl rfl
theorem mu13 {N}:∀i,i < 4→m7 i=mu (ps13 J) N i:=lt4 rfl rfl rfl rfl
theorem p4{k:Xt}{G':Gz}(e:BlG G)(e':BlG G'):Part ps4 (gst sc mix G) (gst sc mix G') (BL k sc mix G J) (BL k sc mix G' J) where
 len:=rfl
 nd:=by decide
 pl:=fun i o h=>al_g o (Qz h)
 pl':=fun i o h=>al_g o (Qz h)
 at0:=fun i j o h1 h2=>by
  obtain⟨l,q⟩:=g_at e mu4 h2
  exact⟨_,mu_lt (N:=0) h1▸(bl_at l).trans q,.inl rfl⟩
 grow:=Qd _
 len':=rfl
 at1:=fun i o h=>by
  obtain⟨l,q⟩:=g_at e' mu4 h
  exact(bl_at l).trans q
 off:=fun j o hj h=>by
  match j,h with
  |0,h|1,h|2,h|3,h|4,h|5,h|6,h=>exact h
  |7,_|8,_|9,_|10,_=>exact absurd (by decide) hj
  |_+11,h=>exact h
theorem bg_at:i < 4→(BG y sc mix G J J2)[mu (ps13 J) N i]?=(G4 sc mix G)[i]?:=lt4 (p:=fun i=>(BG y sc mix G J J2)[mu (ps13 J) N i]?=(G4 sc mix G)[i]?) rfl rfl rfl rfl i
theorem xl_at(h:(xl y)[i]?=some o):(BG y sc mix G J J2)[mu (ps13 J) N (4+i)]?=some o:=by
 match i,h with
 |0,h|1,h|2,h|3,h|4,h|5,h|6,h=>exact h
 |7,h=>exact(at_app (a:=J) (b:=y.h::y.i::J2) (k:=0)).trans h
 |8,h=>exact(at_app (a:=J) (b:=y.h::y.i::J2) (k:=1)).trans h
 |_+9,h=>exact non h
noncomputable abbrev xm(μ:Nat→Nat)(x:Xt):Xt:=⟨renO μ x.a,renO μ x.b,renO μ x.c,renO μ x.d,renO μ x.e,renO μ x.f,renO μ x.g,renO μ x.h,renO μ x.i⟩
theorem xm_at(h:(xl x)[i]?=some o):(xl (xm μ x))[i]?=some (renO μ o):=by
 show((xl x).map (renO μ))[i]?=_
 rw[QJ,h];rfl
noncomputable abbrev Ft(μ:Nat→Nat)(y x:Xt):Prop:=F2 (fun o' o=>o'=renO μ o∨o=.any) (xl y) (xl x)
theorem len2{a b c:Sg}{x y x' y':MObj}:(a++x::y::(b++c)).length=(a++x'::y'::b).length+c.length:=by
 rw[Qb,Qb]
 show _+((b++c).length+2)=a.length+(b.length+2)+c.length
 rw[Qb]
 lia
theorem len3{a b:Sg}{x y:MObj}:(a++x::y::b).length=a.length+b.length+2:=by
 rw[Qb]
 show _+(b.length+2)=_
 lia
theorem p13(e:BlG G)(a:Al3 (xl x))(a':Al3 (xl x'++T))(f:Ft (mu (ps13 J) (BG y sc mix G J J2).length) y x):Part (ps13 J) (s13 sc mix G x) (s13 sc mix G x'++T) (BG y sc mix G J J2) (BG (xm (mu (ps13 J) (BG y sc mix G J J2).length) x') sc mix G J (J2++T.map (renO (mu (ps13 J) (BG y sc mix G J J2).length)))) where
 len:=rfl
 nd:=List.nodup_append.mpr ⟨by decide,QU.mpr ⟨fun h=>Nat.succ_ne_self _ (Qk.mp h).symm,QU.mpr ⟨List.not_mem_nil,List.nodup_nil⟩⟩,fun a ha b hb=>by
  have h1:a < 11:=(by decide:∀a∈ps11,a < 11) a ha
  rcases Qt.mp hb with rfl|hb
  ·lia
  ·have:=Qk.mp hb;lia⟩
 pl:=fun i o h=>(app_at (a:=gst sc mix G) (b:=xl x) h).elim (fun h=>al_g o (Qz h)) fun⟨_,_,h⟩=>a o (Qz h)
 pl':=fun i o h=>(app_at (a:=gst sc mix G) (b:=xl x'++T) h).elim (fun h=>al_g o (Qz h)) fun⟨_,_,h⟩=>a' o (Qz h)
 at0:=fun i j o h1 h2=>by
  rw[← mu_lt (N:=(BG y sc mix G J J2).length) h1]
  rcases app_at (a:=gst sc mix G) (b:=xl x) h2 with h|⟨k,rfl,h⟩
  ·obtain⟨l,q⟩:=g_at e mu13 h
   exact⟨_,(bg_at l).trans q,.inl rfl⟩
  ·obtain⟨o',q1,q2⟩:=f.get h
   exact⟨_,xl_at q1,q2⟩
 grow:=by
  show 13≤T.length+13
  lia
 len':=by
  show(J++_::_::(J2++T.map _)).length+11=(J++_::_::J2).length+11+(T.length+13 - 13)
  rw[len2 (b:=J2) (x':=y.h) (y':=y.i),Qr]
  lia
 at1:=fun i o h=>by
  rcases app_at (a:=gst sc mix G) (b:=xl x'++T) h with h|⟨k,rfl,h'⟩
  ·obtain⟨l,q⟩:=g_at e mu13 h
   exact(bg_at l).trans q
  ·rcases app_at (a:=xl x') (b:=T) h' with h|⟨k,rfl,h2⟩
   ·exact xl_at (xm_at h)
   ·rw[mu_ge (by show 13≤4+(9+k);lia)]
    show(BL _ sc mix G (J++_::_::(J2++T.map _)))[(J++y.h::y.i::J2).length+11+(4+(9+k) - 13)]?=_
    have q:(J++y.h::y.i::J2).length+11+(4+(9+k) - 13)=(J.length+((J2.length+k)+2))+11:=by
     rw[len3];lia
    rw[q]
    show(J++_::_::(J2++T.map _))[J.length+((J2.length+k)+2)]?=_
    rw[at_app]
    show(J2++T.map _)[J2.length+k]?=_
    rw[at_app,QJ,h2];rfl
 off:=fun j o hj h=>by
  rcases Nat.lt_or_ge j 11 with l|l
  ·exact absurd (List.mem_append_left _ ((by decide:∀j,j < 11→j∈ps11) j l)) hj
  ·obtain⟨m,rfl⟩:=Nat.exists_eq_add_of_le' l
   have h:(J++y.h::y.i::J2)[m]?=some o:=h
   show(J++_::_::(J2++T.map _))[m]?=_
   rcases app_at h with h|⟨k,rfl,h'⟩
   ·rw[Qp (Qc.mp h).1];exact h
   ·rw[at_app]
    match k,h' with
    |0,_=>exact absurd (List.mem_append_right _ Qe) hj
    |1,_=>exact absurd (List.mem_append_right _ (Qg _ Qe)) hj
    |k+2,h=>
     show(J2++T.map _)[k]?=_
     have h:J2[k]?=some o:=h
     rw[Qp (Qc.mp h).1];exact h
end
inductive Bdy(X:Wd)(sc:List Int)(mix:Int)(G:Gz)(b:Nat):Prop
 |mk {s G'}{c:Int}:Runs X 51 659 [.ref 3,cT [1,2] 0 false false,.int (.ofNat 4)] (gst sc mix G) (s,gst sc mix G')→GI G'→Bn G' b→Blw 4 s→BlG G'→GSA X [0] false 228 842520 c s G'→Bdy X sc mix G b
noncomputable abbrev xs(kvs:List (Nat × V)):Xt:=⟨.any,.any,.any,.any,.any,.any,.any,.adict kvs,.inst 347 11⟩
noncomputable abbrev xn(n:Int):Xt:=xs [(27,.ref 5),(28,.int n)]
noncomputable abbrev xa:Xt:=⟨.any,.any,.any,.any,.any,.any,.any,.any,.any⟩
inductive Red(X:Wd)(sc:List Int)(mix:Int)(G:Gz)(s:V):Prop
 |mk {t hi}:Runs X 229 505 [.ref 12,s] (s13 sc mix G (xn 0)) (t,s13 sc mix G (xn hi))→Rd2 X 229 sc mix G xa s t→Red X sc mix G s
section
variable {X:Wd}{sc:List Int}{mix c:Int}{G:Gz}{b:Nat}{s:V}
theorem bdy_p(e:BlG G)(I:GI G)(hb:Bn G (b+182539)):Bdy X sc mix G b:=by
 have hc:Cv G [0] [1,2]:=⟨fun l hl=>⟨0,Qe,(Qt.mp hl).elim (fun h=>h▸I.o1) fun h=>Qk.mp h▸I.o2⟩,by decide,by decide,Qe⟩
 obtain⟨r,m,I',b',g⟩:=block_p (X:=X) (num:=0) (lp:=false) (q:=false) (sc:=sc) (mix:=mix) (b:=b) turn4 (fun m hm=>(Qk.mp hm).symm▸I.num) hc (by decide) I (by rw[Nat.add_assoc,show 2*(cs 4+1)+1=182539 by decide +kernel];exact hb)
 rcases r.wlog with⟨h1,h2⟩|h
 ·exact .mk r I' b' h1 (bls_g h2) g
 ·exact .mk (h (.tup [.int 18],_)) I (Qf (QK (Qw _ _) _) hb) (fun _ _ _=>rfl) e (GSA.up (X:=X) (fun C F=>gs_empty (D:=0) (w:=60)) (by decide) (by decide))
theorem spl:Spl X (.ref 12) fun n=>s13 sc mix G (xn n):=⟨fun n=>⟨⟨347,11,_⟩,.mk rfl rfl,rfl,rfl⟩,fun n=>.by 0 rfl fun q=>q⟩
theorem red_p(I:GI G)(hb:Bn G b)(g:GSA X [0] false 228 842520 c s G):Red X sc mix G s:=by
 have en:Env (rp sc mix G xa false) G.of.length:=⟨rfl,fun k=>(I.win k).elim fun ls h=>⟨ls,h.1,h.2.1⟩,I.o1,I.o2⟩
 have F:Fin' G (rp sc mix G xa false):=⟨en,⟨[],(QA _).symm⟩,⟨[],(QA _).symm⟩⟩
 obtain⟨r,_,x⟩:=g (spl (sc:=sc) (mix:=mix) (G:=G)) F 0
 have h3:3≤G.of.length:=(Qc.mp I.o2).1
 have B:=XS.both (m:=0) x (.inl ⟨0,Qe,I.o1⟩) (.inl ⟨0,Qe,I.o2⟩) (simu_i h3 (by decide) fun h=>h.elim (fun⟨_,_,h⟩=>Nat.lt_irrefl _ (Qc.mp h).1) fun h=>nomatch h.2)
 have hl:G.of.length≤LIM:=by unfold Bn at hb;show G.of.length≤16777216;lia
 exact .mk (r.le (by decide)) (Both.rd2 (D:=227) hl B)
end
noncomputable abbrev MU(J J2:Sg):Nat→Nat:=mu (ps13 J) (J.length+J2.length+13)
noncomputable abbrev tlW(r:Bool)(W:RW):Sg:=.list W.log::.idict W.seen::.list W.cells::.idict W.held::.list W.caught::.list W.lids::.sdict (wd r W)::cellsOf 0 W.cs
section
variable {X:Wd}{d f:Nat}{sc:List Int}{mix:Int}{G:Gz}{J J2 T:Sg}{x x' y k:Xt}{μ:Nat→Nat}{vs:List V}{v s fl:V}{b:Bool}{W:RW}{zs us:List Int}
theorem bg_len:(BG y sc mix G J J2).length=J.length+J2.length+13:=congrArg (·+ 11) len3
theorem Runs.pg(e:BlG G)(a:Al3 (xl x))(a':Al3 (xl x'++T))(h:Ft (MU J J2) y x)(r:Runs X d f vs (s13 sc mix G x) (v,s13 sc mix G x'++T)):Runs X d f (vs.map (ren (MU J J2))) (BG y sc mix G J J2) (ren (MU J J2) v,BG (xm (MU J J2) x') sc mix G J (J2++T.map (renO (MU J J2)))):=by
 unfold MU at h⊢
 rw[← bg_len (y:=y) (sc:=sc) (mix:=mix) (G:=G)]at h⊢
 exact Runs.part (p13 e a a' h) r
theorem al_cells:∀{cs:List Int}{k:Nat},Al3 (cellsOf k cs):=by
 intro cs
 induction cs with
 |nil=>exact al_nil
 |cons c cs ih=>exact al_cons (.l _) ih
theorem al_T:Al3 (tlW b W):=al_cons (.l _) (al_cons (.i _) (al_cons (.l _) (al_cons (.i _) (al_cons (.l _) (al_cons (.l _) (al_cons (.s _) al_cells))))))
theorem al_x{T:Sg}{o o':MObj}(h:Pl3 o)(h':Pl3 o')(t:Al3 T):Al3 (.any::.any::.any::.any::.any::.any::.any::o::o'::T):=al_cons .y (al_cons .y (al_cons .y (al_cons .y (al_cons .y (al_cons .y (al_cons .y (al_cons h (al_cons h' t))))))))
theorem ft_x{o o':MObj}{R:MObj→MObj→Prop}(hR:∀o,R o .any)(h:R y.h o)(h':R y.i o'):F2 R (xl y) [.any,.any,.any,.any,.any,.any,.any,o,o']:=.cons (hR _) (.cons (hR _) (.cons (hR _) (.cons (hR _) (.cons (hR _) (.cons (hR _) (.cons (hR _) (.cons h (.cons h' .nil))))))))
theorem RwD.ren{r:V}(h:RwD r):ren μ r=r:=by
 induction h with
 |one=>rfl
 |row is=>exact congrArg (fun l=>V.tup [_,_,.flist l]) ren_int3
inductive RB(X:Wd)(d:Nat)(sc:List Int)(mix:Int)(G:Gz)(J J2:Sg)(y:Xt)(b:Bool)(s fl:V)(log:List V)(zs us:List Int):Prop
 |mk {N J3}:J.length+13≤N→Runs X d 882 [.ref 10,ren (MU J J2) s,.bool b] (BG y sc mix G J J2) (.tup [.ref N,fl,.flist (zs.map .int),.flist (us.map .int)],BG xa sc mix G J J3)→(BG xa sc mix G J J3)[N]?=some (.list log)→(∀j o,J.length+13≤j→(BG y sc mix G J J2)[j]?=some o→(BG xa sc mix G J J3)[j]?=some o)→RB X d sc mix G J J2 y b s fl log zs us
theorem rb_p(e:BlG G)(hf:∀μ,ren μ fl=fl)(hl:∀r∈W.log,RwD r)(r:Runs X d 882 [.ref 3,s,.bool b] (s13 sc mix G xa) (.tup [.ref 13,fl,.flist (zs.map .int),.flist (us.map .int)],rs (rp sc mix G xa b) W)):RB X d sc mix G J J2 y b s fl W.log zs us:=by
 have ft:Ft (MU J J2) y xa:=ft_x (fun _=>.inr rfl) (.inr rfl) (.inr rfl)
 have a':Al3 (xl xa++tlW b W):=al_x .y .y al_T
 have h:=Runs.pg (J:=J) (J2:=J2) (y:=y) (x:=xa) (x':=xa) (T:=tlW b W) e (al_x .y .y al_nil) a' ft r
 have q:ren (MU J J2) (.tup [.ref 13,fl,.flist (zs.map .int),.flist (us.map .int)])=.tup [.ref (MU J J2 13),fl,.flist (zs.map .int),.flist (us.map .int)]:=by
  show V.tup [_,ren _ fl,.flist (renL _ _),.flist (renL _ _)]=_
  rw[hf,ren_int3,ren_int3]
 rw[q]at h
 unfold MU at ft
 rw[← bg_len (y:=y) (sc:=sc) (mix:=mix) (G:=G)]at ft
 have P:=p13 (J:=J) (J2:=J2) (y:=y) (x:=xa) (x':=xa) (T:=tlW b W) e (al_x .y .y al_nil) a' ft
 have at1:=P.at1 13 (.list W.log) rfl
 have off:=P.off
 rw[bg_len]at at1 off
 refine .mk (Qf (Nat.add_le_add_right (Qw _ J2.length) 13) (QT (mu_ge (ps:=ps13 J) (i:=13) (Qd 13)).symm)) h (at1.trans ?_) fun j o hj=>off j o fun hm=>?_
 ·show some (MObj.list (W.log.map (ren _)))=_
  exact congrArg (fun l=>some (MObj.list l)) ((QL fun r hr=>(hl r hr).ren).trans (List.map_id _))
 ·rcases QI.mp hm with h|h
  ·have:=(by decide:∀a∈ps11,a < 11) j h;lia
  ·rcases Qt.mp h with rfl|h
   ·lia
   ·have:=Qk.mp h;lia
end
noncomputable abbrev lwB:Ss:=.cons (.seti (.var 2) (.str 7) (.int 9))
  (.cons (.asg 4 (.call 659 (.cons (.var 2) (.cons (.tup (.cons (.tup (.cons (.int 1) (.cons (.int 2) .nil))) (.cons (.int 0) (.cons (.int 0) (.cons (.int 0) .nil))))) (.cons (.int 4) .nil)))))
  (.cons (.iff (.cmp .ne (.call 882 (.cons (.var 2) (.cons (.call 505 (.cons (.new 347 337 (.cons (.var 1) .nil)) (.cons (.var 4) .nil))) (.cons (.bool true) .nil)))) (.call 882 (.cons (.var 2) (.cons (.var 4) (.cons (.bool false) .nil))))) (.cons (.ret (.bool false))
  .nil) .nil)
  .nil))
inductive TlL:Rho→Prop
 |a:TlL []
 |b (y z):TlL [(3,.v y),(4,.v z)]
noncomputable abbrev lwR(s0:V)(tl:Rho):Rho:=(0,.v s0)::(1,.v (.ref 1))::(2,.v (.ref 10))::tl
inductive TnL(X:Wd)(s0:V)(i:Int)(sc:List Int)(mix:Int)(k:Xt)(G:Gz)(J:Sg)(b:Nat)(tl:Rho):Prop
 |mk {ρ G' J' z}:B1 3 (.int i) (lwR s0 tl) ρ→OkB X 279 lwB ρ (BL k sc mix G J) (.next,lwR s0 [(3,.v (.int i)),(4,.v z)],BL xa sc mix G' J')→GI G'→BlG G'→Bn G' b→TnL X s0 i sc mix k G J b tl
section
variable {X:Wd}{sc:List Int}{mix i:Int}{G:Gz}{J:Sg}{k:Xt}{s0:V}{b:Nat}{tl:Rho}
theorem turn_l(ht:TlL tl)(e:BlG G)(I:GI G)(hb:Bn G (b+182539)):TnL X s0 i sc mix k G J b tl:=by
 obtain @⟨s,G1,c,r1,I1,b1,bl,e1,g⟩:=bdy_p (X:=X) (sc:=sc) (mix:=mix) (G:={G with left:=9}) ⟨e.e⟩ ⟨I.win,I.o1,I.o2,I.num⟩ hb
 obtain @⟨t,hi,r3,rd⟩:=red_p (sc:=sc) (mix:=mix) I1 b1 g
 obtain @⟨fl,W,T,zs,us,ra,rb,hl,hr,hd,hf⟩:=rd
 have R1:=Runs.part (p4 (G:={G with left:=9}) (k:=k) (J:=J) ⟨e.e⟩ e1) r1
 rw[show ren _ s=ren m7 s from bl _ _ fun i h=>(mu4 i h).symm]at R1
 have a0:∀kvs,Al3 (xl (xs kvs)):=fun kvs=>al_x (.a _) (.n _ _) al_nil
 have R2:=Runs.pg (X:=X) (sc:=sc) (mix:=mix) (J:=J) (J2:=[]) (x:=xs []) (x':=xn 0) (T:=[]) (y:=⟨k.a,k.b,k.c,k.d,k.e,k.f,k.g,.adict [],.inst 347 (J.length+11)⟩) e1 (a0 _) (a0 _) (ft_x (fun _=>.inr rfl) (.inl rfl) (.inl rfl)) (.by 0 (D:=278) (f:=337) (vs:=[.ref 12,.ref 5]) rfl fun q=>q)
 have R3:=Runs.pg (J:=J) (J2:=[]) (x:=xn 0) (x':=xn hi) (T:=[]) (y:=xm (MU J []) (xn 0)) e1 (a0 _) (a0 _) (ft_x (fun _=>.inr rfl) (.inl rfl) (.inl rfl)) r3
 obtain @⟨N1,J3,n1,R4,at1,_⟩:=rb_p (J:=J) (J2:=[]) (y:=xm (MU J []) (xn hi)) e1 hf (hl▸hr) rb
 obtain @⟨N2,J4,n2,R5,at2,off⟩:=rb_p (J:=J) (J2:=J3) (y:=xa) e1 hf hr ra
 have q3:∀J2,ren (MU J J2) s=ren m7 s:=fun J2=>bl _ _ fun i h=>(mu13 i h).symm
 rw[q3]at R5
 have R3:Runs X 229 505 [_,ren (MU J []) s] _ _:=R3
 rw[q3]at R3
 have cm:=CmpR.ne (res_eq (zs:=zs) (us:=us) (off _ _ n1 (hl▸at1)) at2 hr hd)
 have R1:=R1.le (by decide:51≤279)
 have R3:=R3.le (by decide:229≤279)
 have R4:=R4.le (by decide:229≤279)
 have R5:=R5.le (by decide:229≤279)
 induction ht<;>exact .mk rfl (.by 4 fun q=>q _ _ R1 _ R2 _ _ R3 _ _ R4 _ _ R5 _ cm) I1 e1 b1
end
theorem sum_ok:∀sc:List Int,∃t,sumV (sc.map .int)=some t
 |[]=>⟨0,rfl⟩
 |i::sc=>(sum_ok sc).elim fun t h=>⟨i+t,congrArg (Option.map (i+·)) h⟩
noncomputable abbrev g00:Gz:=⟨[.int 0,.int 0,.int 0],[],[],0,0,0⟩
noncomputable abbrev k00:Xt:=⟨kA 0,.inst 91 0,.list ((kR++[kr 72])++[kr 73]),.tdict ((kI++[(kr 72,.int 16)])++[(kr 73,.int 17)]),.list ((kc 1++[.int 1])++[.int 1]),.list ((kc 1++[.int 1])++[.int 1]),.list ((kc 0++[.int 0])++[.int 0]),.any,.any⟩
theorem gi0:GI g00:=⟨fun k=>⟨[],rfl,fun l=>⟨fun h=>(nomatch h),fun⟨h,hk⟩=>absurd (by injection (List.mem_replicate (n:=3) (a:=V.int 0)).mp (Qz h) |>.2) hk⟩,QC _⟩,rfl,rfl,Qa _⟩
section
variable {X:Wd}{sc:List Int}{mix i:Int}{G:Gz}{J:Sg}{k:Xt}{s0:V}{b:Nat}{tl:Rho}{xs:List V}{σ:Sg}
theorem rounds_l:∀{n:Nat}{i:Int}{k:Xt}{G:Gz}{J:Sg}{tl:Rho},TlL tl→BlG G→GI G→Bn G (n*182539)→∃ρ σ,Rounds X 279 (B1 3) lwB (rng i n) (lwR s0 tl) (BL k sc mix G J) (.next,ρ,σ):=by
 intro n
 induction n with
 |zero=>exact fun _ _ _ _=>⟨_,_,.nil⟩
 |succ n ih=>
  intro i k G J tl ht e I hb
  rw[Nat.succ_mul]at hb
  obtain⟨h1,ok,I',e',b'⟩:=turn_l (X:=X) (s0:=s0) (i:=i) (sc:=sc) (mix:=mix) (k:=k) (J:=J) ht e I hb
  obtain⟨_,_,r⟩:=ih (i:=i+1) (.b _ _) e' I' b'
  exact⟨_,_,.go h1 ok .next r⟩
theorem rounds_0{n:Nat}(h:n≤50):∃ρ σ,Rounds X 279 (B1 3) lwB (rng 0 n) (lwR s0 []) (K2 [.list [.int 0,.int 0,.int 0],.idict [],.list [],.sdict [(0,.flist (sc.map .int)),(1,.int (.ofNat 0)),(2,.int mix),(3,.int 0),(4,.ref 7),(5,.ref 8),(6,.ref 9),(7,.int 0),(8,.int 16),(9,.int 17)]]) (.next,ρ,σ):=by
 obtain⟨ρ,σ,r⟩:=rounds_l (X:=X) (s0:=s0) (sc:=sc) (mix:=mix) (k:=k00) (J:=[]) (n:=n) (i:=0) .a ⟨fun _ _ _=>⟨rfl,rfl,rfl⟩⟩ gi0 (show 3+0+0+0+n*182539≤10000000 by lia)
 have r:Rounds X 279 (B1 3) lwB (rng 0 n) (lwR s0 []) (K2 [.list [.int 0,.int 0,.int 0],.idict [],.list [],.sdict [(0,.flist (renL m7 (sc.map .int))),(1,.int (.ofNat 0)),(2,.int mix),(3,.int 0),(4,.ref 7),(5,.ref 8),(6,.ref 9),(7,.int 0),(8,.int 16),(9,.int 17)]]) (.next,ρ,σ):=r
 rw[ren_int3]at r
 exact⟨ρ,σ,r⟩
theorem law_p(h1:UpR (.flist xs) (.int (.ofNat 40)) (.flist (sc.map .int)))(hl:sc.length≤40):∃σ,Runs X 280 889 [.flist xs] [] (.bool true,σ):=by
 obtain⟨t,ht⟩:=sum_ok sc
 have hn:1+(sc.map V.int).length / 20≤50:=by rw[Qr];lia
 have hb:Nat.ble (1+(sc.map V.int).length / 20) LIM=true:=QR.mpr (Qf hn (by decide))
 induction sc with
 |nil=>
  obtain⟨ρ,σ,r⟩:=rounds_0 (X:=X) (s0:=.flist []) (sc:=[1,0,1,0,0,0,0,4,1,2,1,1,2,0,2,4,1,0,1,1,0,1,6,0,1,7,0,0]) (mix:=t % 1009) hn
  exact⟨_,.by 65539 rfl fun q=>q _ h1 _ k_init _ (.sum ht) ⟨⟨91,0,_⟩,.mk rfl rfl,rfl,rfl⟩ _ _ (k_put1 (D:=275) (tl:=[_,_,_])) ⟨⟨91,0,_⟩,.mk rfl rfl,rfl,rfl⟩ _ _ (k_put2 (D:=275) (tl:=[_,_,_])) _ _ _ r⟩
 |cons a l=>
  obtain⟨ρ,σ,r⟩:=rounds_0 (X:=X) (s0:=.flist ((a::l).map .int)) (sc:=a::l) (mix:=t % 1009) hn
  exact⟨_,.by 24643 rfl fun q=>q _ h1 _ k_init _ (.sum ht) ⟨⟨91,0,_⟩,.mk rfl rfl,rfl,rfl⟩ _ _ (k_put1 (D:=275) (tl:=[_,_,_])) ⟨⟨91,0,_⟩,.mk rfl rfl,rfl,rfl⟩ _ _ (k_put2 (D:=275) (tl:=[_,_,_])) false rfl hb _ _ _ r⟩
theorem pure_law(ns:List Int)(_:ns.length≤63):∃σ,Runs X 280 889 [.flist (ns.map .int)] [] (.bool true,σ):=
 law_p (sc:=ns.take 40) (List.map_take▸.fl _ 40) (by rw[List.length_take];exact Nat.min_le_left ..)
end
theorem lookup_zip_some{n:Str}:∀{names:List Str}{vals:List Value},vals.length=names.length→n∈names→((names.zip vals).lookup n).isNone=false
 |a::r,v::vs,hl,h=>by
  show(match n==a with|true=>some v|false=>List.lookup n (r.zip vs)).isNone=false
  cases e:n==a with
  |true=>rfl
  |false=>exact lookup_zip_some (Nat.succ.inj hl) ((Qt.mp h).resolve_left fun q=>nomatch (beq_iff_eq.mpr q).symm.trans e)
 |[],_,_,h=>nomatch h
 |_::_,[],hl,_=>nomatch hl
theorem lookup_pre{n:Str}{v:Value}{r:List (Str × Value)}:∀{pre:List (Str × Value)},(∀p∈pre,p.1≠n)→(pre++(n,v)::r).lookup n=some v
 |[],_=>by
  show(match n==n with|true=>some v|false=>List.lookup n r)=some v
  rw[Zb]
 |p::pre,h=>by
  show(match n==p.1 with|true=>some p.2|false=>List.lookup n (pre++(n,v)::r))=some v
  rw[beq_false_of_ne (h p Qe).symm]
  exact lookup_pre fun q hq=>h q (Qg _ hq)
theorem lookup_zip:∀{ns:List Str}{vs:List Value}{pre:List (Str × Value)},ns.Nodup→vs.length=ns.length→(∀p∈pre,p.1∉ns)→ns.filterMap (fun n=>((pre++ns.zip vs).lookup n).map (n,·))=ns.zip vs
 |[],_,_,_,_,_=>rfl
 |a::r,v::vs,pre,hn,hl,hp=>by
  obtain⟨h1,h2⟩:=QU.mp hn
  have e:=lookup_zip (pre:=pre++[(a,v)]) h2 (Nat.succ.inj hl) fun p hm=>(QI.mp hm).elim (fun h q=>hp p h (Qg _ q)) fun h=>Qk.mp h▸h1
  rw[QN]at e
  rw[List.filterMap_cons,show List.lookup a (pre++(a::r).zip (v::vs))=some v from lookup_pre fun p hm q=>hp p hm (q▸Qe)]
  exact congrArg ((a,v)::·) e
 |_::_,[],_,_,hl,_=>nomatch hl
theorem ite_no{α:Type}{c:Prop}{i:Decidable c}{a b r:α}(h:¬c)(k:b=r):@ite α c i a b=r:=(if_neg h).trans k
theorem for_nil{α β γ:Type}{L:List α}{b:β}{f:α→β→Sem (ForInStep β)}{k:β→Sem γ}{r:Sem γ}(h:L=[])(g:k b=r):(forIn L b f >>= k)=r:=by
 subst h
 exact g
theorem zd{α β:Type}{L:List α}{j:Nat}:L.zip (List.drop j ([]:List β))=[]:=by rw[List.drop_nil,List.zip_nil_right]
theorem bind_plain{fd:FuncData}{names:List Str}{vals:List Value}(h1:fd.params.posonlyargs=[])(h2:fd.params.args.map (·.arg)=names)(h3:fd.params.vararg=none)(h4:fd.params.kwonlyargs=[])(h5:fd.params.kwarg=none)(h6:fd.defaults=.none)
  (hn:names.Nodup) (hl:vals.length=names.length):bindArgs fd ⟨vals,[]⟩=pure (names.zip vals):=by
 obtain⟨_,_,⟨_,_,_,_,_,_,_⟩,_⟩:=fd
 dsimp only at h1 h2 h3 h4 h5 h6
 subst h1 h3 h4 h5 h6
 have e:∀k,List.filter (fun n=>((names.zip vals).lookup n).isNone) (List.take k names)=[]:=fun k=>List.filter_eq_nil_iff.mpr fun n hm q=>QQ ((lookup_zip_some hl (List.mem_of_mem_take hm)).symm.trans q)
 have f:=lookup_zip (pre:=[]) hn hl fun _ h=>absurd h List.not_mem_nil
 have f':List.filterMap (fun n=>(([]++(names.zip vals)).lookup n).map (n,·)) (names++[])=names.zip vals:=(congrArg (List.filterMap _) (QA _)).trans f
 subst h2
 refine ite_no (fun h=>absurd (QX (Qq.mp h).1) (Nat.not_lt.mpr (QT hl))) (ite_no (fun h=>QQ ((congrArg (fun l:List Str=>!l.isEmpty) (e _)).symm.trans h)) ?_)
 exact for_nil zd (congrArg (fun l=>(pure l:Sem (List (Str × Value)))) f')
section
set_option maxHeartbeats 0
noncomputable def s0(w:World)(os:OsState):Shared:=⟨boot_heap w.params,#[],boot_drawn,boot_toks,os⟩
noncomputable def sB(w:World)(os:OsState)(n k:Nat)(ov:List (Nat × Obj)):Shared:=(stT w os n k ov).abs
theorem pre_run:∀w:World,(fun os=>topGo treeTable pw w 11 topAnn 12 (s0 w os) (topStub pw))=fun os=>some (sB w os b0N b0K (b0O w.params),⟨denote treeTable topCode,topCode,⟨0,0,0,0⟩,topB⟩):=by
 intro w;kernel_rfl
theorem block_run:∀w:World,(fun os=>segRun treeTable pw w 11 topAnn 1 1 (sB w os b0N b0K (b0O w.params)) (blockOf (behindTheImports pw) topEnv topCode ⟨0,0,0,0⟩ topB))=fun os=>some (Flow.next,sB w os b0N b0K (b0O w.params),topCode,⟨0,0,0,0⟩):=by
 intro w;kernel_rfl
theorem fin_run:∀w:World,(fun os=>topRun treeTable pw w 11 topAnn 2 (sB w os b19N b19K (b19O w.params)) ⟨doneF .next,topCode,⟨1011,0,1022,15⟩,topB⟩)=fun os=>some (sB w os b19N b19K (b19O w.params)):=by
 intro w;kernel_rfl
theorem statics_ok:∀w:World,(fun os=>staticsOk (importedModules pw.main.body) (s0 w os).heap (sB w os b19N b19K (b19O w.params)).heap)=fun _=>true:=by intro w;kernel_rfl
theorem names_ok:∀w:World,(fun os=>namesBound pw (sB w os b19N b19K (b19O w.params)).heap)=fun _=>true:=by intro w;kernel_rfl
theorem laid_ok:∀w:World,(fun os=>laidKept (s0 w os).heap (sB w os b19N b19K (b19O w.params)).heap)=fun _=>true:=by intro w;kernel_rfl
theorem acc_ok:∀w:World,(fun os=>Heap.accountedOkI (sB w os b19N b19K (b19O w.params)).heap (importedModules pw.main.body))=fun _=>true:=by intro w;kernel_rfl
theorem blt_ok:∀w:World,(fun os=>Heap.isNs (sB w os b19N b19K (b19O w.params)).heap builtinsNs)=fun _=>true:=by intro w;kernel_rfl
theorem bltv_ok:∀w:World,(fun os=>Heap.bltView (sB w os b19N b19K (b19O w.params)).heap)=fun _=>bltViewBooted:=by intro w;kernel_rfl
theorem low_ok:∀w:World,(fun os=>((s0 w os).heap.isNs mainGlobals&&(s0 w os).gens.size==0,(s0 w os).heap.nsMap mainGlobals "__annotations__",(s0 w os).heap.objs.size))=fun _=>(true,topAnn,11):=by intro w;kernel_rfl
end
section
set_option maxHeartbeats 0
noncomputable abbrev rw0:OpenLaw:=PySem.Challenge.rw_xm0339_01
theorem bAnd{a b:Bool}(h:a=true)(k:b=true):(a&&b)=true:=by rw[h,k];rfl
theorem said:rw0.wellSaid=true:=by
 unfold OpenLaw.wellSaid OpenRow.wellSaid OpenRow.partSaid looksOpen
 repeat' (with_reducible apply bAnd)
 all_goals (try rw[PySem.W.Fast.te8326940854005059898])
 all_goals (try rw[PySem.W.Fast.te17119622794617984870])
 all_goals (try rw[PySem.W.Fast.te8179353310426384613])
 all_goals (try rw[PySem.W.Fast.te9558739934217749035])
 all_goals (try rw[PySem.W.Fast.te16286561074155671207])
 all_goals (try rw[PySem.W.Fast.te8377067652309620493])
 all_goals (try rw[PySem.W.Fast.te10501279942588096481])
 all_goals (try rw[PySem.W.Fast.te6984425678791042302])
 all_goals (try rw[PySem.W.Fast.te10792542408131684335])
 all_goals (try rw[PySem.W.Fast.te797321630700447069])
 all_goals (try rw[PySem.W.Fast.te9572597257264208301])
 all_goals (try rw[PySem.W.Fast.te17868728402115742887])
 all_goals (try rw[PySem.W.Fast.te18344453789297297638])
 all_goals (try rw[PySem.W.Fast.te12862048085361865435])
 all_goals decide +kernel
theorem tablesW:rw0.row.prog.tablesWhole=true:=by
 unfold Program.tablesWhole TablesWhole.wProgram
 rw[PySem.W.Fast.te6116379765354995101]
 decide +kernel
theorem openW:(opensWell rw0.row.prog&&(frees rw0.row.toRowW&&rw0.row.within.isEmpty))=true:=by decide +kernel
end
section
set_option maxHeartbeats 400000
noncomputable abbrev sF(w:World)(os:OsState):Shared:=sB w os b19N b19K (b19O w.params)
theorem pstep{w:World}{os:OsState}{n N na ka nc kc:Nat}{oa oc:List (Nat × Obj)}{p p':Pos}{r:Shared}{l rest:List Stmt}
  (h:(fun os=>segRunT treeTable pw w 11 topAnn 1 n (stT w os na ka oa) (piecesOf l topEnv topCode p topB))=fun os=>some (Flow.next,stT w os nc kc oc,topCode,p'))
  (k:topRun treeTable pw w 11 topAnn N (sB w os nc kc oc) (restOf rest topEnv topCode p' topB)=some r):
  topRun treeTable pw w 11 topAnn (n+N) (sB w os na ka oa) (restOf (l++rest) topEnv topCode p topB)=some r:=
 piece_app (env:=topEnv) (q:=⟨0,0,0,0⟩) (segRun_of (congrFun h os)) k
theorem pieces_run(w:World)(os:OsState):∃M,topRun treeTable pw w 11 topAnn M (s0 w os) (topStub pw)=some (sF w os):=by
 have k:topRun treeTable pw w 11 topAnn 2 (sB w os b19N b19K (b19O w.params)) (restOf [] topEnv topCode ⟨1011,0,1022,15⟩ topB)=some (sF w os):=congrFun (fin_run w) os
 have k:=pstep (pc19 w) k
 have k:=pstep (pc18 w) k
 have k:=pstep (pc17 w) k
 have k:=pstep (pc16 w) k
 have k:=pstep (pc15 w) k
 have k:=pstep (pc14 w) k
 have k:=pstep (pc13 w) k
 have k:=pstep (pc12 w) k
 have k:=pstep (pc11 w) k
 have k:=pstep (pc10 w) k
 have k:=pstep (pc9 w) k
 have k:=pstep (pc8 w) k
 have k:=pstep (pc7 w) k
 have k:=pstep (pc6 w) k
 have k:=pstep (pc5 w) k
 have k:=pstep (pc4 w) k
 have k:=pstep (pc3 w) k
 have k:=pstep (pc2 w) k
 have k:=pstep (pc1 w) k
 rw[← split_body]at k
 have k:=piece_block (env:=topEnv) (q:=⟨0,0,0,0⟩) (congrFun (block_run w) os) k
 have k:=go_top (congrFun (pre_run w) os) k
 exact⟨_,k⟩
end
section
set_option maxHeartbeats 400000
theorem open_is:opening pw=plainProg pw.main.scope.names:=by kernel_rfl
theorem fence_is(s:Shared):fenceModules? pw s=some s:=by kernel_rfl
theorem baseG(w:World)(os:OsState):globalOf (sF w os).heap "__builtins__"=some (.ref 4):=by
 have h:∀w:World,(fun os=>globalOf (sF w os).heap "__builtins__")=fun _=>some (.ref 4):=by intro w;kernel_rfl
 exact congrFun (h w) os
theorem base4(w:World)(os:OsState):(sF w os).heap.get? 4=some {cls:=.type "module",dict:=some 0}:=by
 have h:∀w:World,(fun os=>(sF w os).heap.get? 4)=fun _=>some {cls:=.type "module",dict:=some 0}:=by intro w;kernel_rfl
 exact congrFun (h w) os
theorem behind(w:World):(∃s,AfterRun (opening pw) w s)∧∀s,AfterRun (opening pw) w s→∃s₀,fenceModules? pw s=some s₀∧s₀.gens=#[]∧∃os,TopRan pw w s₀ (sF w os)∧(sF w os).asleep:=by
 obtain⟨s₀,h2,hv⟩:=Option.map_eq_some_iff.mp (boot_open (p:=pw) (N:=14000) open_is rfl fence_is w)
 unfold fencedOpening at h2
 rw[← table_eq_tree]at h2
 obtain⟨s,h4,h5⟩:=Option.bind_eq_some_iff.mp h2
 have A:=AfterImport.of_importEnds h4
 refine⟨⟨s,A⟩,fun s' hs'=>?_⟩
 obtain rfl:s'=s:=AfterImport.unique hs' A
 have z:s₀.asleep:=Shared.asleep_of_life (fence_lifeW h5) A.life
 obtain⟨H,G,D,K,os⟩:=s₀
 obtain⟨rfl,hv⟩:=Prod.mk.inj hv
 obtain⟨rfl,hv⟩:=Prod.mk.inj hv
 obtain⟨rfl,rfl⟩:=Prod.mk.inj hv
 obtain⟨M,hr⟩:=pieces_run w os
 rw[← table_eq_tree]at hr
 have hlow:=congrFun (low_ok w) os
 obtain⟨hl1,hl2⟩:=Prod.mk.inj hlow
 obtain⟨hl2,hl3⟩:=Prod.mk.inj hl2
 obtain⟨hl1,_⟩:=Qq.mp hl1
 obtain⟨a,l,o,f⟩:=topRun_spec _ _ _ _ z hr
 have hnb:=congrFun (names_ok w) os
 have hg:(sF w os).heap.isNs mainGlobals=true:=(Qq.mp hnb).1
 refine⟨_,h5,rfl,os,⟨a,l,Shared.rest_eq o,fun b o hb hn=>?_,?_,?_,?_,?_,?_,?_,names_of_bound hnb,laid_of_kept (congrFun (laid_ok w) os)⟩,Shared.asleep_of_life l z⟩
 ·refine f b o ?_ (fun q=>hn (.inl q)) (fun q=>hn (.inr (.inl q))) (fun q=>hn (.inr (.inr ((Pin.globalOf_eq hl1 _).trans (hl2.trans q))))) hb
  have hlt:=Heap.lt_size hb
  exact hl3▸hlt
 ·exact Heap.accountedI_of_ok (congrFun (acc_ok w) os)
 ·exact statics_of_ok (congrFun (statics_ok w) os)
 ·exact Pin.keysAreStrs_of hg
 ·exact fun x hx=>(Pin.builtinOf_eq (congrFun (blt_ok w) os) x).trans (Heap.of_bltView (congrFun (blt_ok w) os) (congrFun (bltv_ok w) os) x hx)
 ·exact⟨4,_,baseG w os,base4 w os,rfl,rfl⟩
 ·intro g hg
  have:(sF w os).gens=#[]:=rfl
  rw[this]at hg
  simp at hg
noncomputable def LawCall:Prop:=∀(w:World)(os:OsState)(s₁:Shared)(l:Addr)(vs:List Value)(ns:List Int),
 (∀b o,(sF w os).heap.get? b=some o→s₁.heap.get? b=some o)→s₁.gens=#[]→s₁.heap.IsList l vs.toArray→IntsAre vs ns→ns.length≤63→890≤l→
 wpAny (model pw w) callerA (PySem.call (.ref 889) [.ref l]) (fun v s'=>v=.bool true∧(∀b o,s₁.heap.get? b=some o→s'.heap.get? b=some o)∧s'.os=s₁.os∧s'.gens=#[]) (fun _ _=>False) s₁
end
section
set_option maxHeartbeats 400000
noncomputable abbrev rr:RowW:=rw0.row.toRowW
theorem promised0:rr.promised:=⟨[.list []],by decide +kernel,by decide +kernel⟩
theorem frees0:frees rr=true:=(Qq.mp (Qq.mp openW).2).1
theorem opens0:opensWell pw=true:=(Qq.mp openW).1
theorem bare0:pw.bare:=⟨rfl,rfl,rfl,rfl,rfl,tablesW⟩
theorem lawAt(w:World)(os:OsState):(sF w os).heap.get? 889=some (fn (stm 211) "law" (sv "law_xm0339_01" 1235) (rv 888)):=by
 have h:∀w:World,(fun os=>(sF w os).heap.get? 889)=fun _=>some (fn (stm 211) "law" (sv "law_xm0339_01" 1235) (rv 888)):=by intro w;kernel_rfl
 exact congrFun (h w) os
theorem lawG(w:World)(os:OsState):globalOf (sF w os).heap "law"=some (.ref 889):=by
 have h:∀w:World,(fun os=>globalOf (sF w os).heap "law")=fun _=>some (.ref 889):=by intro w;kernel_rfl
 exact congrFun (h w) os
theorem theLaw:pw.theDef "law"=some (dArgs (stm 211),dBody (stm 211),dScope (stm 211)):=by kernel_rfl
theorem kwLaw:kwWritten? (dArgs (stm 211)).kwonlyargs (dArgs (stm 211)).kw_defaults=some []:=by kernel_rfl
theorem law_is(w:World)(os:OsState):isTheDefsW pw (sF w os).heap "law":=by
 refine⟨889,_,_,_,_,_,lawG w os,lawAt w os,rfl,theLaw,?_,rfl,rfl,rfl,rfl,rfl,rfl,rfl,?_⟩
 ·show dName (stm 211)=_;kernel_rfl
 ·exact⟨.inl ⟨by kernel_rfl,rfl⟩,[],kwLaw,.inl ⟨rfl,rfl⟩⟩
theorem ints_of{R:WRecords}{cl:Str→Option Addr}{h:Heap}{ns:List Int}:∀{vs:List Value}{as:List Addr},ReadsAllW R cl h vs (ns.map .int) as→IntsAre vs ns:=by
 induction ns with
 |nil=>exact fun r=>(readsAllW_nil_inv r).1▸.nil
 |cons n ns ih=>
  intro vs as r
  obtain⟨v,vs,a,b,rfl,_,r1,r2⟩:=readsAllW_cons_inv r
  obtain⟨t,rfl,_⟩:=readsW_int_inv r1
  exact .cons n t (ih r2)
theorem len_read{xs:List WData}(h:WTm.holds [] rr.pre {args:=[.list xs]}=true):xs.length≤63:=by
 by_cases hl:xs.length≤63
 ·exact hl
 ·have hlt:less? (WData.int 63) (WData.int (xs.length:Int))=some true:=congrArg some (QZ (by lia))
  have h2:WTm.holds [] (.and (.not (.lt (.lit (.int 63)) (.len (.arg 0)))) (.lit (.bool true))) {args:=[.list xs]}=true:=h
  unfold WTm.holds at h2
  dsimp only[WTm.value,List.getElem?_cons_zero]at h2
  rw[hlt]at h2
  exact nomatch h2
inductive ArgIs(h:Heap)(vs:List Value)(as:List Addr):Prop
 |mk {l its ns}:vs=[.ref l]→l∈as→h.IsList l its→IntsAre its.toList ns→ns.length≤63→ArgIs h vs as
theorem arg_is{cl:Str→Option Addr}{h:Heap}{args:List WData}{vs:List Value}{as:List Addr}(hpre:rr.claim.pre args=true)(hrd:ReadsAllW rr.claim.records cl h vs args as):ArgIs h vs as:=by
 obtain⟨hs,hp⟩:=pre_splitW hpre
 obtain⟨d,r,rfl,hd,hr⟩:=hasAllW_cons hs
 obtain rfl:=hasAllW_nil hr
 obtain⟨xs,rfl,hi⟩:=hasW_list hd
 obtain⟨v,vs,a,b,rfl,rfl,r1,r2⟩:=readsAllW_cons_inv hrd
 obtain⟨rfl,rfl⟩:=readsAllW_nil_inv r2
 obtain⟨l,its,c,rfl,hl,r3,rfl⟩:=readsW_list_inv r1
 have n:=len_read hp
 obtain⟨ns,rfl⟩:=items_int hi
 exact .mk rfl Qe hl (ints_of r3) (Qr (as:=ns) WData.int▸n)
theorem lowF(w:World)(os:OsState):890≤(sF w os).heap.objs.size:=by
 have h:∀w:World,(fun os=>(sF w os).heap.objs.size)=fun _=>890:=by intro w;kernel_rfl
 exact QT (congrFun (h w) os).symm
theorem post0{args:List WData}:rr.claim.post args (.bool true) args=true:=by kernel_rfl
theorem isNsF(w:World)(os:OsState):(sF w os).heap.isNs mainGlobals=true:=(Qq.mp (congrFun (names_ok w) os)).1
theorem lawN(w:World)(os:OsState):(sF w os).heap.nsMap mainGlobals "law"=some (.ref 889):=(Pin.globalOf_eq (isNsF w os) _).symm.trans (lawG w os)
theorem holds_of(call:LawCall):rw0.Holds:=by
 refine⟨said,row_said said,promised0,⟨bare0,opens0,rfl⟩,promised0.witness,fun w=>⟨(behind w).1,fun s' hs'=>?_⟩⟩
 obtain⟨s₀,hf,hg0,os,T,hz⟩:=(behind w).2 s' hs'
 refine⟨s₀,hf,hg0,sF w os,T,fun n hn=>Qk.mp (show n∈[(Str.ofString "law")]from hn)▸law_is w os,fun x hx=>(nomatch hx),fun x hx=>(nomatch hx),ClaimW.callFrom_of_specG (c:=rr.claim) (tree:=fun vs=>do match ← nsGet mainNs "law" with
   |some f=>do ret (← PySem.call f vs)
   |none=>unsupported "claim.caller:no-such-global") hz rfl fun args hpre hlay ord hord=>?_⟩
 obtain⟨⟨vs,s₁⟩,hlaid⟩:=Option.isSome_iff_exists.mp (layAllW_isSome (P:=w.params) (ord:=ord) (fun c hc=>by cases hc) args rr.args (sF w os) (pre_splitW hpre).1)
 have hal:=layAllW_rest _ _ _ hlaid
 obtain⟨as,hrd,hin,hold⟩:=reads_layAllW hord _ _ _ hlaid hlay s₁.heap (fun _ _ e=>e)
 have L:Laid rr.claim.records w (sF w os) s₁ args vs as:=⟨⟨ord,hord,hlaid⟩,hrd,hin,hold,layAllW_keeps _ _ _ hlaid,hal.1,hal.2.2.1⟩
 obtain⟨rfl,hl,hL,hI,hn⟩:=arg_is hpre hrd
 refine⟨_,s₁,hlaid,QV (wpAny_nsGet ((Heap.Ns.of_isNs (isNsF w os)).keeps L.keeps) ?_)⟩
 rw[lawN]
 refine QV (QY (call w os s₁ _ _ _ L.keeps hal.1 (by rw[Array.toArray_toList];exact hL) hI hn (Qf (lowF w os) (hin.2.2 _ hl).1)) ?_ fun _ _ x=>x.elim)
 rintro v' s' ⟨rfl,hk,ho,hg⟩
 obtain⟨hsame,hu,ha,hap,hm⟩:=frees_parts frees0
 obtain⟨e1,e2,e3⟩:=GoodWG.laid (c:=rr.claim) hsame rfl (ident_freeW hu ha hap) L (GoodW.toG ⟨.inl ⟨_,.bool true,[],rfl,fun _=>rfl,.bool true,post0,fun _=>⟨List.nodup_nil,fun a ha=>nomatch ha⟩⟩,hk,ho,hg⟩)
 exact QW ⟨_,rfl,e1,e2,e3,fun q=>nomatch q⟩
end
noncomputable def vInt(v:Value):Option Int:=@Value.casesOn (fun _=>Option Int) v none none none (fun _=>none) (fun i _=>some i) (fun _ _=>none) (fun _ _=>none) (fun _ _=>none) (fun _=>none) (fun _=>none) fun _=>none
noncomputable def vRef(v:Value):Option Addr:=@Value.casesOn (fun _=>Option Addr) v none none none (fun _=>none) (fun _ _=>none) (fun _ _=>none) (fun _ _=>none) (fun _ _=>none) (fun _=>none) (fun _=>none) some
noncomputable def dSeq(d:Data):Option (Array Value):=@Data.casesOn (fun _=>Option (Array Value)) d none (fun _=>none) (fun a _=>some a) (fun _ _=>none) (fun _ _ _=>none) (fun _ _=>none) (fun _=>none) (fun _=>none) (fun _=>none) (fun _=>none) none
noncomputable def dDict(d:Data):Option (Array DictEntry):=@Data.casesOn (fun _=>Option (Array DictEntry)) d none (fun _=>none) (fun _ _=>none) (fun a _=>some a) (fun _ _ _=>none) (fun _ _=>none) (fun _=>none) (fun _=>none) (fun _=>none) (fun _=>none) none
theorem vInt_{v:Value}{i:Int}(h:vInt v=some i):∃t,v=.int i t:=by
 induction v with
 |int j t=>exact⟨t,congrArg (fun i=>Value.int i t) (sij h)⟩
 |_=>exact non h
theorem vRef_{v:Value}{a:Addr}(h:vRef v=some a):v=.ref a:=by
 induction v with
 |ref b=>exact congrArg _ (sij h)
 |_=>exact non h
theorem dSeq_{d:Data}{a:Array Value}(h:dSeq d=some a):∃n,d=.seq a n:=by
 induction d with
 |seq b n=>exact⟨n,congrArg (fun x=>Data.seq x n) (sij h)⟩
 |_=>exact non h
theorem dDict_{d:Data}{a:Array DictEntry}(h:dDict d=some a):∃n,d=.dict a n:=by
 induction d with
 |dict b n=>exact⟨n,congrArg (fun x=>Data.dict x n) (sij h)⟩
 |_=>exact non h
noncomputable def chkI(i:Int)(v:Value):Bool:=(vInt v).any fun j=>i==j
theorem chkI_{i:Int}{v:Value}(h:chkI i v=true):∃t,v=.int i t:=by
 obtain⟨j,h1,h2⟩:=an_ h
 exact beq_iff_eq.mp h2▸vInt_ h1
noncomputable def chkT(h:Heap)(n:Nat)(f:List Value→Bool)(v:Value):Bool:=(vRef v).any fun a=>(h.get? a).any fun o=>(dSeq o.data).any fun vs=>(o.cls==.type "tuple")&&(Nat.ble n LIM&&f vs.toList)
noncomputable def chkC(l:List Value)(f:Value→Bool)(g:List Value→Bool):Bool:=@List.casesOn Value (fun _=>Bool) l false fun v vs=>f v&&g vs
noncomputable def chkV(h:Heap):V→Value→Bool:=@V.rec (fun _=>Value→Bool) (fun _=>List Value→Bool) (fun _=>false) (fun _ _=>false) chkI (fun _ _=>false) (fun xs f=>chkT h xs.length f) (fun _ _ _=>false) (fun _ _=>false) (fun _ _=>false) (fun l=>l.isEmpty) fun _ _ f g l=>chkC l f g
noncomputable def chkVs(h:Heap):List V→List Value→Bool:=@V.rec_1 (fun _=>Value→Bool) (fun _=>List Value→Bool) (fun _=>false) (fun _ _=>false) chkI (fun _ _=>false) (fun xs f=>chkT h xs.length f) (fun _ _ _=>false) (fun _ _=>false) (fun _ _=>false) (fun l=>l.isEmpty) fun _ _ f g l=>chkC l f g
theorem chkC_{l:List Value}{f:Value→Bool}{g:List Value→Bool}(e:chkC l f g=true):∃v vs,l=v::vs∧f v=true∧g vs=true:=by
 induction l with
 |nil=>exact nomatch e
 |cons v vs=>exact⟨v,vs,rfl,band e⟩
theorem chkV_ok{h:Heap}{x:V}:∀{v:Value},chkV h x v=true→VRep ⟨h.get?,[]⟩ v x:=
 @V.rec (fun x=>∀{v:Value},chkV h x v=true→VRep ⟨h.get?,[]⟩ v x) (fun xs=>∀{l:List Value},chkVs h xs l=true→VReps ⟨h.get?,[]⟩ l xs) (fun e=>nomatch e) (fun _ _ e=>nomatch e)
  (fun i v e=>(chkI_ e).elim fun t h=>h▸.int i t) (fun _ _ e=>nomatch e)
  (fun xs ih v e=>by
   obtain⟨a,h1,e⟩:=an_ (o:=vRef v) e
   obtain⟨o,h2,e⟩:=an_ e
   obtain⟨vs,h3,e⟩:=an_ e
   obtain⟨e1,e⟩:=band e
   obtain⟨e2,e3⟩:=band e
   obtain⟨n,h3⟩:=dSeq_ h3
   rw[vRef_ h1]
   exact .tup h2 (beq_iff_eq.mp e1) h3 (ih e3) (QO e2)) (fun _ _ _ e=>nomatch e) (fun _ _ e=>nomatch e) (fun _ _ e=>nomatch e)
  (fun e=>List.isEmpty_iff.mp e▸.nil) (fun x xs h1 h2 l e=>by
   obtain⟨v,vs,rfl,e1,e2⟩:=chkC_ e
   exact .cons (h1 e1) (h2 e2)) x
noncomputable def chkE(h:Heap)(p:Int × V)(e:DictEntry):Bool:=chkI p.1 e.key&&((e.hash==hashInt p.1)&&chkV h p.2 e.val)
noncomputable def chkEs(h:Heap)(kvs:List (Int × V)):List DictEntry→Bool:=List.rec (fun l=>l.isEmpty) (fun p _ f l=>@List.casesOn DictEntry (fun _=>Bool) l false fun e es=>chkE h p e&&f es) kvs
noncomputable def chkD(h:Heap)(a:Addr)(kvs:List (Int × V)):Bool:=(h.get? a).any fun o=>(dDict o.data).any fun es=>(o.cls==.type "dict")&&(o.dict.isNone&&(o.slots.isEmpty&&chkEs h kvs es.toList))
inductive EsR(w:World)(h:Heap)(kvs:List (Int × V))(es:List DictEntry):Prop
 |mk {ps}:Pairs (intKind pw w) es ps→(∀e∈es,∃k,(intKind pw w).is k e.key=true∧e.hash=(intKind pw w).hash k)→PReps ⟨h.get?,[]⟩ ps kvs→ps.map (·.1)=kvs.map (·.1)→EsR w h kvs es
theorem chkEs_ok{w:World}{h:Heap}{kvs:List (Int × V)}:∀{es:List DictEntry},chkEs h kvs es=true→EsR w h kvs es:=by
 induction kvs with
 |nil=>exact fun e=>List.isEmpty_iff.mp e▸.mk .nil (fun _ h=>nomatch h) .nil rfl
 |cons p r ih=>
  intro es e
  induction es with
  |nil=>exact nomatch e
  |cons d es=>
   obtain⟨e1,e⟩:=band e
   obtain⟨e1,e2⟩:=band e1
   obtain⟨e2,e3⟩:=band e2
   obtain⟨q1,q2,q3,q4⟩:=ih e
   obtain⟨t,e1⟩:=chkI_ e1
   have hk:(intKind pw w).is p.1 d.key=true:=e1▸Zb p.1
   exact .mk (.cons (kv:=(p.1,d.val)) hk rfl q1) (fun e' he'=>(Qt.mp he').elim (fun h=>h▸⟨p.1,hk,beq_iff_eq.mp e2⟩) (q2 e')) (.cons ⟨rfl,chkV_ok e3⟩ q3) (congrArg (p.1::·) q4)
theorem chkD_ok{w:World}{h:Heap}{a:Addr}{kvs:List (Int × V)}(hn:(kvs.map (·.1)).Nodup)(e:chkD h a kvs=true):∃ps,h.DictOf (intKind pw w) a ps∧PReps ⟨h.get?,[]⟩ ps kvs:=by
 obtain⟨o,ho,e⟩:=an_ e
 obtain⟨es,hd,e⟩:=an_ e
 obtain⟨e1,e⟩:=band e
 obtain⟨e2,e⟩:=band e
 obtain⟨e3,e4⟩:=band e
 obtain⟨n,hd⟩:=dDict_ hd
 obtain @⟨ps,q1,q2,q3,q4⟩:=chkEs_ok (w:=w) e4
 exact⟨ps,⟨o,es,n,ho,⟨beq_iff_eq.mp e1,Option.isNone_iff_eq_none.mp e2,Array.isEmpty_iff.mp e3⟩,hd,fun x hx=>q2 x (Array.mem_toList_iff.mpr hx),q1,q4▸hn⟩,q3⟩
noncomputable def chkGV(g:GV)(v:Value):Bool:=@GV.casesOn (fun _=>Bool) g (fun i=>chkI i v) (fun a=>v==.ref a) (fun s=>v==.builtin s) fun s=>v==.type s
theorem gvOk_ok{g:GV}{v:Value}(h:chkGV g v=true):GVal g v:=by
 induction g with
 |int i=>exact(chkI_ h).elim fun t h=>h▸.int i t
 |ref a=>exact beq_iff_eq.mp h▸.ref a
 |bltn s=>exact beq_iff_eq.mp h▸.bltn s
 |ty s=>exact beq_iff_eq.mp h▸.ty s
noncomputable def chkG(Mg Mb:Str→Option Value)(p:String × GV):Bool:=@Option.casesOn Value (fun _=>Bool) (Mg (Str.ofString p.1)) ((Mb (Str.ofString p.1)).any (chkGV p.2)) (chkGV p.2)
theorem chkG_{Mg Mb:Str→Option Value}{p:String × GV}(h:chkG Mg Mb p=true):∃v,chkGV p.2 v=true∧(Mg (Str.ofString p.1)=some v∨(Mg (Str.ofString p.1)=none∧Mb (Str.ofString p.1)=some v)):=by
 unfold chkG at h
 revert h
 cases Mg (Str.ofString p.1)with
 |some v=>exact fun h=>⟨v,h,.inl rfl⟩
 |none=>exact fun h=>(an_ h).elim fun v h=>⟨v,h.2,.inr ⟨rfl,h.1⟩⟩
noncomputable def KF(w:World):Frag:=[74,88,90,91,337,344,346,347].map fun a=>(a,getF w.params a)
theorem KF_in(w:World)(os:OsState):(KF w).In (sF w os).heap:=by
 have h:∀w:World,(fun os=>[74,88,90,91,337,344,346,347].map (sF w os).heap.get?)=fun _=>(KF w).map fun p=>some p.2:=by intro w;kernel_rfl
 exact Frag.in_of (as:=[74,88,90,91,337,344,346,347]) (by rfl) (congrFun (h w) os)
theorem cls_at(w:World)(C:Addr)(h:((List.range 34).all fun n=>decide (findIn (KF w) (.ref C) (kn n)=some none)&&decide (takerIn (KF w) C (kn n)=some none))=true):
  ∀n,n < 36→n≠34→n≠35→findIn (KF w) (.ref C) (kn n)=some none∧takerIn (KF w) C (kn n)=some none:=fun n hn h1 h2=>by
 have:=QM.mp h n (List.mem_range.mpr (by lia))
 obtain⟨a,b⟩:=Qq.mp this
 exact⟨QX a,QX b⟩
theorem mt91{n f:Nat}(h:methTab 91 n=some f):n=35∧f=88:=by
 cases e:Nat.beq n 35 with
 |true=>exact⟨Qy e,by rw[Qy e]at h;exact(Ql h).symm⟩
 |false=>exact nomatch (show(@Bool.rec (fun _=>Option Nat) none (some 88) (Nat.beq n 35))=some f from h).symm.trans (congrArg (@Bool.rec (fun _=>Option Nat) none (some 88)) e)
theorem mt347{n f:Nat}(h:methTab 347 n=some f):n=34∧f=344:=by
 cases e:Nat.beq n 34 with
 |true=>exact⟨Qy e,by rw[Qy e]at h;exact(Ql h).symm⟩
 |false=>exact nomatch (show(@Bool.rec (fun _=>Option Nat) none (some 344) (Nat.beq n 34))=some f from h).symm.trans (congrArg (@Bool.rec (fun _=>Option Nat) none (some 344)) e)
theorem cls91(w:World):ClsOK (KF w) 91 74:=by
 refine⟨?_,?_,?_,?_,?_,cls_at w 91 ?_,?_,?_,?_,?_,fun n f h=>?_⟩
 all_goals first|kernel_rfl|skip
 obtain⟨rfl,rfl⟩:=mt91 h
 exact⟨by kernel_rfl,by kernel_rfl,by kernel_rfl⟩
theorem cls347(w:World):ClsOK (KF w) 347 337:=by
 refine⟨?_,?_,?_,?_,?_,cls_at w 347 ?_,?_,?_,?_,?_,fun n f h=>?_⟩
 all_goals first|kernel_rfl|skip
 obtain⟨rfl,rfl⟩:=mt347 h
 exact⟨by kernel_rfl,by kernel_rfl,by kernel_rfl⟩
theorem glob_ok:∀w:World,(fun os=>gtab.all (chkG ((sF w os).heap.nsMap mainGlobals) ((sF w os).heap.nsMap builtinsNs)))=fun _=>true:=by intro w;kernel_rfl
theorem places_ok:∀w:World,(fun os=>chkD (sF w os).heap 180 (placeTab 0)&&chkD (sF w os).heap 251 (placeTab 1)&&chkD (sF w os).heap 60 (placeTab 2))=fun _=>true:=by intro w;kernel_rfl
theorem tt_ok:∀w:World,(fun os=>chkV (sF w os).heap (.tup [.int 1,.int 1,.int 1]) (.ref 323))=fun _=>true:=by intro w;kernel_rfl
theorem nolim_ok:∀w:World,(fun os=>(sF w os).heap.noLimitOk)=fun _=>true:=by intro w;kernel_rfl
theorem sys_ok:∀w:World,(fun os=>((sF w os).heap.get? sysModules).isSome)=fun _=>true:=by intro w;kernel_rfl
theorem baseOK(w:World)(os os':OsState):BaseOK ⟨w,(sF w os).heap,os'⟩:=by
 have hnb:=congrFun (names_ok w) os
 have hg:(sF w os).heap.isNs mainGlobals=true:=(Qq.mp hnb).1
 refine⟨⟨KF w,KF_in w os,cls91 w,cls347 w⟩,Option.isSome_iff_exists.mp (congrFun (sys_ok w) os),Heap.NoLimit.of_ok (congrFun (nolim_ok w) os),fun p hp=>?_,fun t=>?_,chkV_ok (congrFun (tt_ok w) os)⟩
 ·have h:=QM.mp (congrFun (glob_ok w) os) p hp
  have h':chkG ((sF w os).heap.nsMap mainGlobals) ((sF w os).heap.nsMap builtinsNs) p=true:=h
  have N1:=Heap.Ns.of_isNs hg
  have N2:=Heap.Ns.of_isNs (congrFun (blt_ok w) os)
  obtain⟨v,hv,h|h⟩:=chkG_ h'
  ·exact⟨_,v,N1,gvOk_ok hv,.inl h⟩
  ·exact⟨_,v,N1,gvOk_ok hv,.inr ⟨h.1,_,N2,h.2⟩⟩
 ·have h:=congrFun (places_ok w) os
  obtain⟨h12,h3⟩:=Qq.mp h
  obtain⟨h1,h2⟩:=Qq.mp h12
  match t with
  |0=>exact⟨by decide,chkD_ok (by decide +kernel) h1⟩
  |1=>exact⟨by decide,chkD_ok (by decide +kernel) h2⟩
  |n+2=>exact⟨by show(60:Nat)≠_;decide,chkD_ok (kvs:=placeTab 2) (by decide +kernel) h3⟩
theorem cells_some{n:Str}:∀{names:List (Str × NameKind)}{k:Nat}{acc:List (Str × Addr)},((acc.lookup n).isSome=true∨names.lookup n=some .cell)→((cellsFrom k names acc).lookup n).isSome=true:=by
 intro names
 induction names with
 |nil=>exact fun h=>h.elim id fun q=>nomatch q
 |cons p r ih=>
  obtain⟨m,kd⟩:=p
  intro k acc h
  unfold cellsFrom
  by_cases hk:(kd==NameKind.cell)=true
  ·rw[if_pos hk]
   refine ih ?_
   cases hm:n==m with
   |true=>exact .inl (congrArg Option.isSome (look_hd hm))
   |false=>exact h.imp (fun h=>(congrArg Option.isSome (look_hd hm)).trans h) fun h=>(look_hd hm).symm.trans h
  ·rw[if_neg hk]
   refine ih (h.imp id fun h=>?_)
   cases hm:n==m with
   |true=>exact absurd (sij ((look_hd hm).symm.trans h)▸Zb NameKind.cell) hk
   |false=>exact(look_hd hm).symm.trans h
noncomputable def fnStat(F:Fn):Bool:=decide (F.np≤F.vars.length∧(F.vars.map Str.ofString).Nodup∧F.pnames.Nodup∧F.pnames.length=F.np)&&(F.vars.map Str.ofString).all fun n=>!(n==("__debug__":Str))&&!(n==("__classdict__":Str))
noncomputable def chkFd(h:Heap)(F:Fn)(fd:FuncData)(body:List Stmt):Bool:=h.codeRecOk fd.code fd.qualname&&fd.closure.isEmpty&&!fd.scope.isCoroutine&&!fd.scope.isGenerator&&decide (fd.scope.kind=.function∧fd.globals=mainGlobals∧fd.builtins=builtinsNs)&&okSs (mt fd.scope F) F.body body&&
 (fd.params.posonlyargs.isEmpty&&decide (fd.params.args.map (·.arg)=F.pnames)&&fd.params.vararg.isNone&&fd.params.kwonlyargs.isEmpty&&fd.params.kwarg.isNone&&(fd.defaults==.none))&&F.pnames.all fun n=>fd.scope.names.lookup n==some .local||fd.scope.names.lookup n==some .cell
noncomputable def dFd(d:Data):Option FuncData:=@Data.casesOn (fun _=>Option FuncData) d none (fun _=>none) (fun _ _=>none) (fun _ _=>none) (fun _ _ _=>none) (fun _ _=>none) (fun _=>none) some (fun _=>none) (fun _=>none) none
theorem dFd_{d:Data}{fd:FuncData}(h:dFd d=some fd):d=.func fd:=by
 induction d with
 |func g=>exact congrArg _ (sij h)
 |_=>exact non h
noncomputable def asBody(b:FuncBody):Option (List Stmt):=@FuncBody.casesOn (fun _=>Option (List Stmt)) b some fun _=>none
theorem asBody_{b:FuncBody}{l:List Stmt}(h:asBody b=some l):b=.stmts l:=by
 induction b with
 |stmts g=>exact congrArg _ (sij h)
 |_=>exact non h
noncomputable def chkFn(h:Heap)(p:Nat × Fn):Bool:=(h.get? p.1).any fun o=>(dFd o.data).any fun fd=>(asBody fd.body).any (chkFd h p.2 fd)
theorem chkFn_ok{w:World}{h:Heap}{os:OsState}{f:Nat}{F:Fn}(hs:fnStat F=true)(hc:chkFn h (f,F)=true):FnOK ⟨w,h,os⟩ f F:=by
 obtain⟨hs,s5⟩:=band hs
 obtain⟨s1,s2,s3,s4⟩:=QX hs
 obtain⟨o,ho,hc⟩:=an_ hc
 obtain⟨fd,hd,hc⟩:=an_ hc
 obtain⟨body,hb,hc⟩:=an_ hc
 obtain⟨hc,c8⟩:=band hc
 obtain⟨hc,c7⟩:=band hc
 obtain⟨hc,c6⟩:=band hc
 obtain⟨hc,c5⟩:=band hc
 obtain⟨hc,c4⟩:=band hc
 obtain⟨hc,c3⟩:=band hc
 obtain⟨c1,c2⟩:=band hc
 obtain⟨c7,d6⟩:=band c7
 obtain⟨c7,d5⟩:=band c7
 obtain⟨c7,d4⟩:=band c7
 obtain⟨c7,d3⟩:=band c7
 obtain⟨d1,d2⟩:=band c7
 obtain⟨e1,e2,e3⟩:=QX c5
 have nt:∀{b:Bool},(!b)=true→b=false:=fun{b} h=>by induction b<;>first|rfl|exact nomatch h
 refine⟨s1,s2,s3,s4,fun n hn=>(band (QM.mp s5 n hn)).imp nt nt,o,fd,body,ho,dFd_ hd,asBody_ hb,Heap.CodeRec.of_ok c1,emp c2,nt c3,nt c4,e1,e2,e3,c6,fun vals hv=>bind_plain (emp d1) (QX d2) (nn d3) (emp d4) (nn d5) (Za d6) s3 (s4.symm▸hv),fun n hn=>?_⟩
 exact(Bool.or_eq_true_iff.mp (QM.mp c8 n hn)).imp Za fun e=>⟨Za e,fun k=>cells_some (.inr (Za e))⟩
theorem stat_ok:codeTab.all (fun p=>fnStat p.2)=true:=by kernel_rfl
theorem fns_ok1:∀w:World,(fun os=>(codeTab.take 27).all (chkFn (sF w os).heap))=fun _=>true:=by intro w;kernel_rfl
theorem fns_ok2:∀w:World,(fun os=>((codeTab.drop 27).take 27).all (chkFn (sF w os).heap))=fun _=>true:=by intro w;kernel_rfl
theorem fns_ok3:∀w:World,(fun os=>(codeTab.drop 54).all (chkFn (sF w os).heap))=fun _=>true:=by intro w;kernel_rfl
theorem mem_lookup{f:Nat}{F:Fn}:∀{l:List (Nat × Fn)},l.lookup f=some F→(f,F)∈l:=by
 intro l
 induction l with
 |nil=>exact fun h=>nomatch h
 |cons p l ih=>
  obtain⟨a,b⟩:=p
  intro h
  rw[List.lookup_cons]at h
  cases e:f==a with
  |true=>rw[e]at h;obtain rfl:=Za e;obtain rfl:=sij h;exact Qe
  |false=>rw[e]at h;exact Qg _ (ih h)
theorem fnsOK(w:World)(os os':OsState):∀f F,code f=some F→FnOK ⟨w,(sF w os).heap,os'⟩ f F:=fun f F h=>by
 have hm:=mem_lookup h
 refine chkFn_ok (QM.mp stat_ok _ hm) ?_
 rw[show codeTab=codeTab.take 27++((codeTab.drop 27).take 27++codeTab.drop 54) by rw[show codeTab.drop 54=(codeTab.drop 27).drop 27 from by rw[List.drop_drop],List.take_append_drop,List.take_append_drop]]at hm
 rcases QI.mp hm with h1|h1
 ·exact QM.mp (congrFun (fns_ok1 w) os) _ h1
 ·rcases QI.mp h1 with h1|h1
  ·exact QM.mp (congrFun (fns_ok2 w) os) _ h1
  ·exact QM.mp (congrFun (fns_ok3 w) os) _ h1
noncomputable def PureLaw:Prop:=∀(X:Wd)(ns:List Int),ns.length≤63→∃σ,Runs X 280 889 [.flist (ns.map .int)] [] (.bool true,σ)
theorem reps_ints{g:Gh}{vs:List Value}{ns:List Int}(h:IntsAre vs ns):VReps g vs (ns.map .int):=by
 induction h with
 |nil=>exact .nil
 |cons i t _ ih=>exact .cons (.int i t) ih
theorem law_of(H:PureLaw):LawCall:=by
 intro w os s₁ l vs ns hk hg hl hi hn h890
 let X:Wd:=⟨⟨w,(sF w os).heap,s₁.os⟩,baseOK w os s₁.os,fnsOK w os s₁.os⟩
 obtain⟨σ,hp⟩:=H X ns hn
 let g:Gh:=⟨s₁.heap.get?,[]⟩
 have I:HInv X.X g [] s₁:=⟨fun b o e=>hk b o e,fun a o e=>e,hg,rfl,rfl,fun i m a e=>(nomatch e),List.nodup_nil,fun a h=>(nomatch h),fun a h=>(nomatch h)⟩
 obtain⟨o,ho,hc,k,hd⟩:=hl
 have rep:VRep g (.ref l) (.flist (ns.map .int)):=.flist (g:=g) ho hc hd (by simpa using reps_ints hi) (by rw[List.length_map];exact Nat.le_trans hn (by decide))
 refine wpAny_call (codeAny_mono (hp.run callerA s₁ g [.ref l] ⟨rfl,by decide,by decide⟩ I (.cons rep .nil)) fun res s' hres=>?_)
 obtain⟨u,rfl,g',I',rep',st⟩:=hres
 obtain rfl:u=.bool true:=rep'.inv
 exact⟨rfl,fun b o e=>I'.frz b o (st.le.phi b o e),I'.os,I'.gens⟩
theorem holds_if(H:PureLaw):rw0.Holds:=holds_of (law_of H)
end Mine
theorem PySem.Challenge.cw_xm0339_01_holds : PySem.Challenge.rw_xm0339_01.Holds := by
 exact Mine.holds_if fun _ ns h=>Mine.pure_law ns h
