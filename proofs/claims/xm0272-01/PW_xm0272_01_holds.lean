import PyProof.Rows.All
import Wide.All
import OpenK.AllK
import Wide.FinOn
import Lean
import PySem.Challenge.RW_xm0272_01
set_option maxRecDepth 1000000
set_option maxHeartbeats 0
set_option linter.all false
set_option Elab.async false
namespace Mine
open PySem PySem.W
noncomputable abbrev PW:Program:=PySem.Challenge.pw_xm0272_01
noncomputable def p0:Pos:=⟨0,0,0,0⟩
noncomputable def Zb (i:Nat):Stmt:=PW.main.body.getD i (.Pass p0)
noncomputable def Zsb:Stmt→Str
 |.FunctionDef n .. =>n
 |_=>Str.empty
noncomputable def Sw:Stmt→Arguments
 |.FunctionDef _ a .. =>a
 |_=>⟨[],[],none,[],[],none,[]⟩
noncomputable def L2:Stmt→List Stmt
 |.FunctionDef _ _ b .. =>b
 |.ClassDef _ _ _ b .. =>b
 |_=>[]
noncomputable def Uc:Stmt→Scope
 |.FunctionDef _ _ _ _ _ _ s .. =>s
 |_=>⟨.module,[],false,false,[]⟩
noncomputable def Rl (c j:Nat):Stmt:=(L2 (Zb c)).getD j (.Pass p0)
noncomputable def fnD (st:Stmt) (qual:Str) (pm cd:Value) (g:Addr):FuncData:={name:=Zsb st,qualname:=qual,params:=Sw st,body:= .stmts (L2 st),scope:=Uc st,globals:=g,closure:=[],defaults:= .none,kwdefaults:= .none,pyModule:=pm,code:=cd}
noncomputable def E (P:Params) (x:Str) (t:Nat) (v:Value):DictEntry:=⟨PyData.keyHash P x,.str x t,v⟩
noncomputable abbrev N (o:Obj) (l r:BT):BT:= .node o l r
noncomputable abbrev L:BT:= .nil
noncomputable abbrev lf (o:Obj):BT:= .node o .nil .nil
noncomputable def Xb (P:Params):List DictEntry:=[E P "__doc__" 166 .none,E P "__package__" 167 .none,E P "__loader__" 168 (.builtin "__main__.__loader__#opaque"),E P "__spec__" 169 .none,E P "__annotations__" 170 (.ref 6),E P "__builtins__" 171 (.ref 4),E P "__file__" 173 (.str "/claim/cut.py" 172),E P "__cached__" 174 .none,E P "OP_LDC_I4" 188 (.int 32 187),E P "OP_CALL" 190 (.int 40 189),E P "OP_RET" 192 (.int 42 191),E P "OP_BR" 194 (.int 56 193),E P "OP_BRFALSE" 196 (.int 57 195),E P "OP_BRTRUE" 198 (.int 58 197),E P "OP_BEQ" 200 (.int 59 199),E P "OP_BLE" 202 (.int 62 201),E P "OP_BLT" 204 (.int 63 203),E P "OP_BLE_UN" 206 (.int 67 205),E P "OP_BLT_UN" 208 (.int 68 207),E P "OP_ADD" 210 (.int 88 209),E P "OP_SUB" 212 (.int 89 211),E P "OP_MUL" 214 (.int 90 213),E P "OP_CONV_I4" 216 (.int 105 215),E P "OP_CALLVIRT" 218 (.int 111 217),E P "OP_LDSTR" 220 (.int 114 219),E P "OP_NEWOBJ" 222 (.int 115 221),E P "OP_THROW" 224 (.int 122 223),E P "OP_LDFLD" 226 (.int 123 225),E P "OP_STFLD" 228 (.int 125 227),E P "OP_BOX" 230 (.int 140 229),E P "OP_NEWARR" 232 (.int 141 231),E P "OP_LDLEN" 234 (.int 142 233),E P "OP_LDELEM" 236 (.int 163 235),E P "OP_STELEM" 238 (.int 164 237),E P "OP_LDARG" 240 (.int 65033 239),E P "OP_LDLOC" 242 (.int 65036 241),E P "OP_STLOC" 244 (.int 65038 243),E P "A_PRIVATE" 246 (.int 1 245),E P "A_ASSEMBLY" 248 (.int 3 247),E P "A_PUBLIC" 250 (.int 6 249),E P "RuneError" 283 (.ref 31),E P "BadKind" 299 (.ref 44),E P "VOID" 303 (.int 0 302),E P "BOOL" 305 (.int 1 304),E P "CHAR" 307 (.int 2 306),E P "I1" 309 (.int 3 308),E P "U1" 311 (.int 4 310),E P "I2" 313 (.int 5 312),E P "U2" 315 (.int 6 314),E P "I4" 317 (.int 7 316),E P "U4" 319 (.int 8 318),E P "I8" 321 (.int 9 320),E P "U8" 323 (.int 10 322),E P "NINT" 325 (.int 11 324),E P "OBJECT" 327 (.int 12 326),E P "STRING" 329 (.int 13 328),E P "NULLK" 331 (.int 14 330),E P "PRIM_END" 333 (.int 16 332),E P "R_PRIM" 335 (.int 1 334),E P "R_CLASS" 337 (.int 2 336),E P "R_VALUE" 339 (.int 3 338),E P "R_ARRAY" 341 (.int 4 340),E P "R_BYREF" 343 (.int 5 342),E P "R_VAR" 345 (.int 6 344),E P "R_MVAR" 347 (.int 7 346),E P "R_BOXED" 349 (.int 8 348),E P "R_ROREF" 351 (.int 9 350),E P "R_FTN" 353 (.int 10 352),E P "R_RAW" 355 (.int 11 354),E P "DEEPEST_KIND" 357 (.int 24 356),E P "HEAVIEST_KIND" 359 (.int 4096 358),E P "TID_PRIM" 388 (.ref 47),E P "KindTable" 445 (.ref 78),E P "inner_kinds" 453 (.ref 89),E P "row_level" 460 (.ref 96),E P "row_length" 467 (.ref 103),E P "check_kind_row" 477 (.ref 110),E P "check_named" 485 (.ref 117),E P "check_args" 494 (.ref 124),E P "may_stand" 503 (.ref 131),E P "class_kind" 512 (.ref 138),E P "value_kind" 521 (.ref 145),E P "prim_kind" 529 (.ref 152),E P "array_kind" 537 (.ref 159),E P "var_kind" 545 (.ref 166),E P "is_value" 553 (.ref 173),E P "is_var" 562 (.ref 180),E P "CF_ITEMS" 564 (.int 8 563),E P "CF_COUNT" 566 (.int 9 565),E P "CF_VERSION" 568 (.int 10 567),E P "CF_LE_LIST" 570 (.int 20 569),E P "CF_LE_AT" 572 (.int 21 571),E P "CF_LE_CUR" 574 (.int 22 573),E P "CF_LE_VER" 576 (.int 23 575),E P "CF_END" 578 (.int 63 577),E P "CM_OBJ_CTOR" 580 (.int 1 579),E P "CM_OBJ_EQUALS" 582 (.int 3 581),E P "CM_EX_CTOR0" 584 (.int 21 583),E P "CM_EXCEPTIONS" 586 (.int 30 585),E P "CM_LIST_CTOR" 588 (.int 124 587),E P "CM_ADD" 590 (.int 125 589),E P "CM_LIST_COUNT" 592 (.int 126 591),E P "CM_GETITEM" 594 (.int 127 593),E P "CM_SETITEM" 596 (.int 128 595),E P "CM_REMOVEAT" 598 (.int 129 597),E P "CM_CLEAR" 600 (.int 130 599),E P "CM_CONTAINS" 602 (.int 131 601),E P "CM_LIST_ENUM" 604 (.int 132 603),E P "CM_INSERT" 606 (.int 133 605),E P "CM_LE_CTOR" 608 (.int 134 607),E P "CM_LE_MOVE" 610 (.int 135 609),E P "CM_LE_CURRENT" 612 (.int 136 611),E P "CM_LE_DISPOSE" 614 (.int 137 613),E P "CM_END" 616 (.int 255 615),E P "S_CLASS" 620 (.int 1 619),E P "S_STRUCT" 622 (.int 2 621),E P "S_ENUM" 624 (.int 5 623),E P "VA_NONE" 626 (.int 0 625),E P "MF_VIRTUAL" 628 (.int 2 627),E P "MF_NEWSLOT" 630 (.int 4 629),E P "MF_FINAL" 632 (.int 16 631),E P "MF_CTOR" 634 (.int 32 633),E P "MF_CCTOR" 636 (.int 64 635),E P "MF_SPECIAL" 638 (.int 128 637),E P "T_OBJECT" 640 (.int 1 639),E P "T_EXCEPTION" 642 (.int 7 641),E P "T_NULLREF" 644 (.int 21 643),E P "T_INVALIDOP" 646 (.int 29 645),E P "T_ARGRANGE" 648 (.int 32 647),E P "T_IENUM" 650 (.int 35 649),E P "T_IENUMERATOR" 652 (.int 36 651),E P "T_LIST" 654 (.int 37 653),E P "T_LISTENUM" 656 (.int 55 655),E P "TypeDef" 710 (.ref 197),E P "FieldDef" 750 (.ref 218),E P "MethodDef" 798 (.ref 239),E P "Body" 833 (.ref 260),E P "Store" 867 (.ref 281),E P "plain_names" 876 (.ref 292),E P "add_iface" 886 (.ref 299),E P "put_field_at" 900 (.ref 306),E P "kept_flags" 907 (.ref 313),E P "put_method_at" 923 (.ref 320),E P "note_method" 933 (.ref 327),E P "set_body" 949 (.ref 334),E P "put_once" 957 (.ref 341),E P "add_prop" 970 (.ref 348),E P "exception_ctor" 978 (.ref 355),E P "self_kind" 989 (.ref 362),E P "kind_with" 999 (.ref 369),E P "is_virtual" 1006 (.ref 376),E P "SO_NONE" 1010 (.int 0 1009),E P "SO_I4" 1012 (.int 1 1011),E P "SO_I8" 1014 (.int 2 1013),E P "SO_ARG" 1016 (.int 3 1015),E P "SO_LOCAL" 1018 (.int 4 1017),E P "SO_BRANCH" 1020 (.int 5 1019),E P "SO_SWITCH" 1022 (.int 6 1021),E P "SO_KIND" 1024 (.int 7 1023),E P "SO_FIELD" 1026 (.int 8 1025),E P "SO_METHOD" 1028 (.int 9 1027),E P "SO_TEXT" 1030 (.int 10 1029),E P "SO_TOKEN" 1032 (.int 11 1031),E P "OP_SORT" 1285 (.ref 377),E P "is_branch" 1292 (.ref 391),E P "MARK" 1297 (.int (-1) 1296),E P "settle" 1309 (.ref 398),E P "put_prop" 1323 (.ref 405),E P "plain_class" 1331 (.ref 412),E P "call_of" 1339 (.ref 419),E P "ctor_of" 1346 (.ref 426),E P "throw_rows" 1355 (.ref 433),E P "CM_LIST_GROW" 1359 (.int 206 1358),E P "FIRST_SIZE" 1361 (.int 4 1360),E P "SEALED_VIRTUAL" 1364 (.int 22 1363),E P "TEXT_INDEX" 1366 (.str "Index was out of range. Must be non-negative and less than the size of the collection." 1365),E P "TEXT_INSERT" 1368 (.str "Index must be within the bounds of the List." 1367),E P "TEXT_CHANGED" 1370 (.str "Collection was modified; enumeration operation may not execute." 1369),E P "load_items" 1377 (.ref 440),E P "load_count" 1384 (.ref 447),E P "add_to" 1394 (.ref 454),E P "step_local" 1402 (.ref 461),E P "check_index" 1410 (.ref 468),E P "put_member" 1426 (.ref 475),E P "grow_rows" 1435 (.ref 482),E P "add_rows" 1444 (.ref 489),E P "set_rows" 1453 (.ref 496),E P "remove_rows" 1462 (.ref 503),E P "insert_rows" 1471 (.ref 510),E P "clear_rows" 1480 (.ref 517),E P "contains_rows" 1489 (.ref 524),E P "install_list_fields" 1496 (.ref 531),E P "install_list_reading" 1508 (.ref 538),E P "install_list_writing" 1517 (.ref 545),E P "put_walker" 1532 (.ref 552),E P "walker_field" 1540 (.ref 559),E P "walker_list" 1548 (.ref 566),E P "walker_start" 1557 (.ref 573),E P "move_rows" 1567 (.ref 580),E P "install_walker" 1576 (.ref 587),E P "install_core_list" 1584 (.ref 594),E P "_law_run" 1592 (.ref 599),E P "_law_rare" 1598 (.ref 604),E P "_law_sides" 1610 (.ref 611),E P "_law_new" 1616 (.ref 616),E P "_law_bare_new" 1624 (.ref 623),E P "_law_held" 1630 (.ref 628),E P "_law_deed" 1640 (.ref 635),E P "_law_alike" 1652 (.ref 642),E P "_law_drawn" 1659 (.ref 649),E P "_law_ends" 1672 (.ref 656),E P "_law_undone" 1688 (.ref 663),E P "_law_replaced" 1701 (.ref 670),E P "_law_both_in" 1715 (.ref 677),E P "_law_both_out" 1728 (.ref 684),E P "_law_again" 1734 (.ref 689),E P "_law_any" 1748 (.ref 696),E P "_law_walker" 1757 (.ref 703),E P "_law_moves" 1769 (.ref 710),E P "_law_stale" 1778 (.ref 717),E P "_law_walkers" 1794 (.ref 724),E P "_law_walk" 1807 (.ref 731),E P "_law_refused" 1821 (.ref 738),E P "_law_found" 1835 (.ref 745),E P "_law_step" 1848 (.ref 752),E P "law" 1854 (.ref 757)]
noncomputable def tab12:List Value:=[(.int 34 0),(.int 0 0),(.ref 20),(.int 39 0),(.int 0 0),(.ref 40),(.int 72 0),(.int 0 0),(.ref 53),(.int 121 0),(.int 0 0),(.ref 88),(.int 130 0),(.int 0 0),(.ref 95),(.int 134 0),(.int 0 0),(.ref 102),(.int 140 0),(.int 0 0),(.ref 109),(.int 162 0),(.int 0 0),(.ref 116),(.int 166 0),(.int 0 0),(.ref 123),(.int 170 0),(.int 0 0),(.ref 130),(.int 175 0),(.int 0 0),(.ref 137),(.int 179 0),(.int 0 0),(.ref 144),(.int 183 0),(.int 0 0),(.ref 151),(.int 187 0),(.int 0 0),(.ref 158),(.int 189 0),(.int 0 0),(.ref 165),(.int 191 0),(.int 0 0),(.ref 172),(.int 195 0),(.int 0 0),(.ref 179),(.int 245 0),(.int 0 0),(.ref 186),(.int 271 0),(.int 0 0),(.ref 207),(.int 281 0),(.int 0 0),(.ref 228),(.int 298 0),(.int 0 0),(.ref 249),(.int 305 0),(.int 0 0),(.ref 270),(.int 315 0),(.int 0 0),(.ref 291),(.int 320 0),(.int 0 0),(.ref 298),(.int 324 0),(.int 0 0),(.ref 305),(.int 334 0),(.int 0 0),(.ref 312),(.int 338 0),(.int 0 0),(.ref 319),(.int 354 0),(.int 0 0),(.ref 326),(.int 362 0),(.int 0 0),(.ref 333),(.int 370 0),(.int 0 0),(.ref 340),(.int 373 0),(.int 0 0),(.ref 347),(.int 375 0),(.int 0 0),(.ref 354),(.int 377 0),(.int 0 0),(.ref 361),(.int 385 0),(.int 0 0),(.ref 368),(.int 390 0),(.int 0 0),(.ref 375),(.int 406 0),(.int 0 0),(.ref 390),(.int 410 0),(.int 0 0),(.ref 397),(.int 426 0),(.int 0 0),(.ref 404),(.int 431 0),(.int 0 0),(.ref 411),(.int 433 0),(.int 0 0),(.ref 418),(.int 435 0),(.int 0 0),(.ref 425),(.int 439 0),(.int 0 0),(.ref 432),(.int 448 0),(.int 0 0),(.ref 439),(.int 450 0),(.int 0 0),(.ref 446),(.int 452 0),(.int 0 0),(.ref 453),(.int 455 0),(.int 0 0),(.ref 460),(.int 457 0),(.int 0 0),(.ref 467),(.int 460 0),(.int 0 0),(.ref 474),(.int 463 0),(.int 0 0),(.ref 481),(.int 473 0),(.int 0 0),(.ref 488),(.int 478 0),(.int 0 0),(.ref 495),(.int 482 0),(.int 0 0),(.ref 502),(.int 490 0),(.int 0 0),(.ref 509),(.int 500 0),(.int 0 0),(.ref 516),(.int 506 0),(.int 0 0),(.ref 523),(.int 512 0),(.int 0 0),(.ref 530),(.int 516 0),(.int 0 0),(.ref 537),(.int 527 0),(.int 0 0),(.ref 544),(.int 536 0),(.int 0 0),(.ref 551),(.int 539 0),(.int 0 0),(.ref 558),(.int 541 0),(.int 0 0),(.ref 565),(.int 543 0),(.int 0 0),(.ref 572),(.int 547 0),(.int 0 0),(.ref 579),(.int 558 0),(.int 0 0),(.ref 586),(.int 571 0),(.int 0 0),(.ref 593),(.int 581 0),(.int 0 0),(.ref 598),(.int 626 0),(.int 0 0),(.ref 603),(.int 665 0),(.int 0 0),(.ref 610),(.int 686 0),(.int 0 0),(.ref 615),(.int 691 0),(.int 0 0),(.ref 622),(.int 698 0),(.int 0 0),(.ref 627),(.int 701 0),(.int 0 0),(.ref 634),(.int 704 0),(.int 0 0),(.ref 641),(.int 713 0),(.int 0 0),(.ref 648),(.int 715 0),(.int 0 0),(.ref 655),(.int 723 0),(.int 0 0),(.ref 662),(.int 733 0),(.int 0 0),(.ref 669),(.int 737 0),(.int 0 0),(.ref 676),(.int 742 0),(.int 0 0),(.ref 683),(.int 746 0),(.int 0 0),(.ref 688),(.int 767 0),(.int 0 0),(.ref 695),(.int 786 0),(.int 0 0),(.ref 702),(.int 791 0),(.int 0 0),(.ref 709),(.int 794 0),(.int 0 0),(.ref 716),(.int 796 0),(.int 0 0),(.ref 723),(.int 807 0),(.int 0 0),(.ref 730),(.int 814 0),(.int 0 0),(.ref 737),(.int 823 0),(.int 0 0),(.ref 744),(.int 834 0),(.int 0 0),(.ref 751),(.int 862 0),(.int 0 0),(.ref 756)]
noncomputable def tS (l:List (String×Nat)):Obj:=⟨.type "tuple",none,.seq (l.map fun p=>Value.str p.1 p.2).toArray 0,[].toArray⟩
noncomputable def cdO (a b:String) (t ln n z r m:Nat):Obj:=⟨.type "code",none,.fields [.str a t,.str b (t + 1),.str "/claim/cut.py" (t + 2),.int ln 0,.int n 0,.int 0 0,.int 0 0,.int z 0,.ref r,.bool true,.int 181 0,.ref (r + 1),.none,.ref (r + 2),.ref (r + 3),.ref (r + 4),.int m 0,.int ln 0,.str "/claim/cut.py" (m + 1)].toArray,[].toArray⟩
noncomputable def uF (l:List Value):Obj:=⟨.none,none,.fields l.toArray,[].toArray⟩
noncomputable def fN (st:Stmt) (q:String):Obj:=⟨.none,none,.func (fnD st q .none .none 0),[].toArray⟩
noncomputable def di (k t v u:Nat):DictEntry:=⟨k,.int k t,.int v u⟩
noncomputable def fF (st:Stmt) (q x:String) (t r:Nat):Obj:=⟨.type "function",none,.func (fnD st q (.str x t) (.ref r) 3),[].toArray⟩
noncomputable def o2 (P:Params):Obj:=⟨.none,none,(.dict [E P "type.__subclasses__.Exception.0" 280 (.int 31 0),E P "type.__subclasses__.Exception.n" 281 (.int 1 0)].toArray 2),[].toArray⟩
noncomputable def o11:=tS []
noncomputable def o13:Obj:=⟨(.type "code"),none,(.fields [(.str "<module>" 182),(.str "<module>" 183),(.str "/claim/cut.py" 184),(.int 1 0),(.int 0 0),(.int 0 0),(.int 0 0),(.int 0 0),(.ref 11),(.bool false),(.int 181 0),(.ref 12),.none,.none,.none,.none,(.int 185 0),(.int 1 0),(.str "/claim/cut.py" 186)].toArray),[].toArray⟩
noncomputable def o14:Obj:=⟨(.type "frame"),none,.plain,[some (.ref 13),some (.ref 3),some (.ref 3),none,some (.str "__main__" 164),none,some (.ref 0)].toArray⟩
noncomputable def o15:Obj:=⟨(.type "tuple"),none,(.seq [(.type "Exception")].toArray 0),[].toArray⟩
noncomputable def o16:Obj:=⟨(.type "builtin_function_or_method"),none,(.fields [(.builtin "type.__prepare__"),(.type "type")].toArray),[].toArray⟩
noncomputable def o17 (P:Params):Obj:=⟨(.type "dict"),none,(.dict [E P "__module__" 260 (.str "framerune.faults" 251),E P "__qualname__" 262 (.str "RuneError" 261),E P "__firstlineno__" 264 (.int 34 263),E P "__init__" 273 (.ref 28),E P "__static_attributes__" 276 (.ref 29)].toArray 5),[].toArray⟩
noncomputable def o18:=tS []
noncomputable def o19:=uF [(.int 36 0),(.int 4 0),(.ref 27)]
noncomputable def o20:Obj:=⟨(.type "code"),none,(.fields [(.str "RuneError" 255),(.str "RuneError" 256),(.str "/claim/cut.py" 257),(.int 34 0),(.int 0 0),(.int 0 0),(.int 0 0),(.int 0 0),(.ref 18),(.bool false),(.int 181 0),(.ref 19),.none,.none,.none,.none,(.int 258 0),(.int 34 0),(.str "/claim/cut.py" 259)].toArray),[].toArray⟩
noncomputable def o21:Obj:=⟨(.type "frame"),none,.plain,[some (.ref 20),some (.ref 3),some (.ref 17),none,some (.str "framerune.faults" 251),none,some (.ref 0)].toArray⟩
noncomputable def o22:=tS []
noncomputable def o23:=uF []
noncomputable def o24:=tS [("self",268),("code",269),("at",270)]
noncomputable def o25:=tS []
noncomputable def o26:=fN (Rl 33 0) "RuneError.__init__"
noncomputable def o27:=cdO "__init__" "RuneError.__init__" 265 36 3 3 22 271
noncomputable def o28:=fF (Rl 33 0) "RuneError.__init__" "framerune.faults" 251 27
noncomputable def o29:=tS [("at",274),("code",275)]
noncomputable def o30 (P:Params):Obj:=⟨(.type "dict"),none,(.dict [E P "__module__" 260 (.str "framerune.faults" 251),E P "__firstlineno__" 264 (.int 34 263),E P "__init__" 273 (.ref 28),E P "__static_attributes__" 276 (.ref 29),E P "__weakref__" 278 (.ref 32),E P "__doc__" 279 .none].toArray 3),[].toArray⟩
noncomputable def o31:Obj:=⟨(.type "type"),none,(.cls ⟨"RuneError",[(.type "Exception")],[(.ref 31),(.type "Exception"),(.type "BaseException"),(.type "object")],30,"RuneError",true,[],[(.ref 44)],false,none,false⟩),[some (.ref 15),none,some (.str "RuneError" 253),some (.str "RuneError" 261),some (.builtin "Exception.__new__"),some (.bool true)].toArray⟩
noncomputable def o32:Obj:=⟨(.type "getset_descriptor"),none,(.fields [(.str "__weakref__" 277),(.ref 31),(.builtin "ExceptionGroup.__weakref__"),.none].toArray),[].toArray⟩
noncomputable def o33:Obj:=⟨(.type "super"),none,(.fields [(.ref 31),(.ref 31),(.ref 31)].toArray),[].toArray⟩
noncomputable def o34:Obj:=⟨(.type "builtin_function_or_method"),none,(.fields [(.builtin "object.__init_subclass__"),(.ref 31)].toArray),[].toArray⟩
noncomputable def o35:Obj:=⟨(.type "tuple"),none,(.seq [(.ref 31)].toArray 0),[].toArray⟩
noncomputable def o36:Obj:=⟨(.type "builtin_function_or_method"),none,(.fields [(.builtin "type.__prepare__"),(.type "type")].toArray),[].toArray⟩
noncomputable def o37 (P:Params):Obj:=⟨(.type "dict"),none,(.dict [E P "__module__" 291 (.str "framerune.faults" 251),E P "__qualname__" 293 (.str "BadKind" 292),E P "__firstlineno__" 295 (.int 39 294),E P "__static_attributes__" 296 (.ref 42)].toArray 4),[].toArray⟩
noncomputable def o38:=tS []
noncomputable def o39:=uF []
noncomputable def o40:Obj:=⟨(.type "code"),none,(.fields [(.str "BadKind" 286),(.str "BadKind" 287),(.str "/claim/cut.py" 288),(.int 39 0),(.int 0 0),(.int 0 0),(.int 0 0),(.int 0 0),(.ref 38),(.bool false),(.int 181 0),(.ref 39),.none,.none,.none,.none,(.int 289 0),(.int 39 0),(.str "/claim/cut.py" 290)].toArray),[].toArray⟩
noncomputable def o41:Obj:=⟨(.type "frame"),none,.plain,[some (.ref 40),some (.ref 3),some (.ref 37),none,some (.str "framerune.faults" 251),none,some (.ref 0)].toArray⟩
noncomputable def o42:=tS []
noncomputable def o43 (P:Params):Obj:=⟨(.type "dict"),none,(.dict [E P "__module__" 291 (.str "framerune.faults" 251),E P "__firstlineno__" 295 (.int 39 294),E P "__static_attributes__" 296 (.ref 42),E P "__doc__" 297 .none].toArray 2),[].toArray⟩
noncomputable def o44:Obj:=⟨(.type "type"),none,(.cls ⟨"BadKind",[(.ref 31)],[(.ref 44),(.ref 31),(.type "Exception"),(.type "BaseException"),(.type "object")],43,"BadKind",true,[],[],false,none,false⟩),[some (.ref 35),none,some (.str "BadKind" 284),some (.str "BadKind" 292),some (.builtin "Exception.__new__"),some (.bool true)].toArray⟩
noncomputable def o45:Obj:=⟨(.type "super"),none,(.fields [(.ref 44),(.ref 44),(.ref 44)].toArray),[].toArray⟩
noncomputable def o46:Obj:=⟨(.type "builtin_function_or_method"),none,(.fields [(.builtin "object.__init_subclass__"),(.ref 44)].toArray),[].toArray⟩
noncomputable def o47:Obj:=⟨(.type "dict"),none,(.dict [di 20 360 0 302,di 9 361 1 304,di 10 362 2 306,di 11 363 3 308,di 12 364 4 310,di 13 365 5 312,di 14 366 6 314,di 15 367 7 316,di 16 368 8 318,di 17 369 9 320,di 18 370 10 322,di 19 371 11 324,di 1 372 12 326,di 4 373 13 328].toArray 14),[].toArray⟩
noncomputable def o48:=tS []
noncomputable def o49:Obj:=⟨(.type "builtin_function_or_method"),none,(.fields [(.builtin "type.__prepare__"),(.type "type")].toArray),[].toArray⟩
noncomputable def o50 (P:Params):Obj:=⟨(.type "dict"),none,(.dict [E P "__module__" 396 (.str "framerune.kinds" 300),E P "__qualname__" 398 (.str "KindTable" 397),E P "__firstlineno__" 400 (.int 72 399),E P "__init__" 409 (.ref 61),E P "row" 417 (.ref 68),E P "put" 432 (.ref 75),E P "__static_attributes__" 438 (.ref 76)].toArray 7),[].toArray⟩
noncomputable def o51:=tS []
noncomputable def o52:=uF [(.int 74 0),(.int 4 0),(.ref 60),(.int 88 0),(.int 4 0),(.ref 67),(.int 93 0),(.int 4 0),(.ref 74)]
noncomputable def o53:Obj:=⟨(.type "code"),none,(.fields [(.str "KindTable" 391),(.str "KindTable" 392),(.str "/claim/cut.py" 393),(.int 72 0),(.int 0 0),(.int 0 0),(.int 0 0),(.int 0 0),(.ref 51),(.bool false),(.int 181 0),(.ref 52),.none,.none,.none,.none,(.int 394 0),(.int 72 0),(.str "/claim/cut.py" 395)].toArray),[].toArray⟩
noncomputable def o54:Obj:=⟨(.type "frame"),none,.plain,[some (.ref 53),some (.ref 3),some (.ref 50),none,some (.str "framerune.kinds" 300),none,some (.ref 0)].toArray⟩
noncomputable def o55:=tS []
noncomputable def o56:=uF []
noncomputable def o57:=tS [("self",404),("number",405),("row",406)]
noncomputable def o58:=tS []
noncomputable def o59:=fN (Rl 66 0) "KindTable.__init__"
noncomputable def o60:=cdO "__init__" "KindTable.__init__" 401 74 1 3 55 407
noncomputable def o61:=fF (Rl 66 0) "KindTable.__init__" "framerune.kinds" 300 60
noncomputable def o62:=tS []
noncomputable def o63:=uF []
noncomputable def o64:=tS [("self",413),("k",414)]
noncomputable def o65:=tS []
noncomputable def o66:=fN (Rl 66 1) "KindTable.row"
noncomputable def o67:=cdO "row" "KindTable.row" 410 88 2 3 62 415
noncomputable def o68:=fF (Rl 66 1) "KindTable.row" "framerune.kinds" 300 67
noncomputable def o69:=tS []
noncomputable def o70:=uF []
noncomputable def o71:=tS [("self",421),("row",422),("found",423),("depth",424),("weight",425),("opened",426),("level",427),("inner",428),("k",429)]
noncomputable def o72:=tS []
noncomputable def o73:=fN (Rl 66 2) "KindTable.put"
noncomputable def o74:=cdO "put" "KindTable.put" 418 93 2 3 69 430
noncomputable def o75:=fF (Rl 66 2) "KindTable.put" "framerune.kinds" 300 74
noncomputable def o76:=tS [("depths",433),("index",434),("opens",435),("rows",436),("weights",437)]
noncomputable def o77 (P:Params):Obj:=⟨(.type "dict"),none,(.dict [E P "__module__" 396 (.str "framerune.kinds" 300),E P "__firstlineno__" 400 (.int 72 399),E P "__init__" 409 (.ref 61),E P "row" 417 (.ref 68),E P "put" 432 (.ref 75),E P "__static_attributes__" 438 (.ref 76),E P "__dict__" 440 (.ref 79),E P "__weakref__" 442 (.ref 80),E P "__doc__" 443 .none].toArray 4),[].toArray⟩
noncomputable def o78:Obj:=⟨(.type "type"),none,(.cls ⟨"KindTable",[(.type "object")],[(.ref 78),(.type "object")],77,"KindTable",true,[],[],false,none,false⟩),[none,none,some (.str "KindTable" 389),some (.str "KindTable" 397),some (.builtin "object.__new__"),some (.bool true)].toArray⟩
noncomputable def o79:Obj:=⟨(.type "getset_descriptor"),none,(.fields [(.str "__dict__" 439),(.ref 78),(.builtin "function.__dict__"),(.builtin "function.__dict__#set")].toArray),[].toArray⟩
noncomputable def o80:Obj:=⟨(.type "getset_descriptor"),none,(.fields [(.str "__weakref__" 441),(.ref 78),(.builtin "ExceptionGroup.__weakref__"),.none].toArray),[].toArray⟩
noncomputable def o81:Obj:=⟨(.type "super"),none,(.fields [(.ref 78),(.ref 78),(.ref 78)].toArray),[].toArray⟩
noncomputable def o82:Obj:=⟨(.type "builtin_function_or_method"),none,(.fields [(.builtin "object.__init_subclass__"),(.ref 78)].toArray),[].toArray⟩
noncomputable def o83:=tS []
noncomputable def o84:=uF []
noncomputable def o85:=tS [("row",449),("sort",450)]
noncomputable def o86:=tS []
noncomputable def o87:=fN (Zb 67) "inner_kinds"
noncomputable def o88:=cdO "inner_kinds" "inner_kinds" 446 121 1 3 83 451
noncomputable def o89:=fF (Zb 67) "inner_kinds" "framerune.kinds" 300 88
noncomputable def o90:=tS []
noncomputable def o91:=uF []
noncomputable def o92:=tS [("sort",457)]
noncomputable def o93:=tS []
noncomputable def o94:=fN (Zb 68) "row_level"
noncomputable def o95:=cdO "row_level" "row_level" 454 130 1 3 90 458
noncomputable def o96:=fF (Zb 68) "row_level" "framerune.kinds" 300 95
noncomputable def o97:=tS []
noncomputable def o98:=uF []
noncomputable def o99:=tS [("sort",464)]
noncomputable def Zb5:=tS []
noncomputable def Zb6:=fN (Zb 69) "row_length"
noncomputable def Zb7:=cdO "row_length" "row_length" 461 134 1 3 97 465
noncomputable def Zb8:=fF (Zb 69) "row_length" "framerune.kinds" 300 102
noncomputable def Zb9:=tS []
noncomputable def Zba:=uF []
noncomputable def Zbb:=tS [("kt",471),("row",472),("sort",473),("inner",474)]
noncomputable def Zbc:=tS []
noncomputable def Zbd:=fN (Zb 70) "check_kind_row"
noncomputable def Zbe:=cdO "check_kind_row" "check_kind_row" 468 140 2 3 104 475
noncomputable def Zbf:=fF (Zb 70) "check_kind_row" "framerune.kinds" 300 109
noncomputable def Zbg:=tS []
noncomputable def Zbh:=uF []
noncomputable def Zbi:=tS [("kt",481),("row",482)]
noncomputable def Zbj:=tS []
noncomputable def Zbk:=fN (Zb 71) "check_named"
noncomputable def Zbl:=cdO "check_named" "check_named" 478 162 2 3 111 483
noncomputable def Zbm:=fF (Zb 71) "check_named" "framerune.kinds" 300 116
noncomputable def Zbn:=tS []
noncomputable def Zbo:=uF []
noncomputable def Zbp:=tS [("kt",489),("args",490),("arg",491)]
noncomputable def Zbq:=tS []
noncomputable def Zbr:=fN (Zb 72) "check_args"
noncomputable def Zbs:=cdO "check_args" "check_args" 486 166 2 3 118 492
noncomputable def Zbt:=fF (Zb 72) "check_args" "framerune.kinds" 300 123
noncomputable def Zbu:=tS []
noncomputable def Zbv:=uF []
noncomputable def Zbw:=tS [("kt",498),("k",499),("sort",500)]
noncomputable def Zbx:=tS []
noncomputable def Zby:=fN (Zb 73) "may_stand"
noncomputable def Zbz:=cdO "may_stand" "may_stand" 495 170 2 3 125 501
noncomputable def Zc0:=fF (Zb 73) "may_stand" "framerune.kinds" 300 130
noncomputable def Zc1:=tS []
noncomputable def Zc2:=uF []
noncomputable def Zc3:=tS [("kt",507),("tid",508),("args",509)]
noncomputable def Zc4:=tS []
noncomputable def Zc5:=fN (Zb 74) "class_kind"
noncomputable def Zc6:=cdO "class_kind" "class_kind" 504 175 3 3 132 510
noncomputable def Zc7:=fF (Zb 74) "class_kind" "framerune.kinds" 300 137
noncomputable def Zc8:=tS []
noncomputable def Zc9:=uF []
noncomputable def Zca:=tS [("kt",516),("tid",517),("args",518)]
noncomputable def Zcb:=tS []
noncomputable def Zcc:=fN (Zb 75) "value_kind"
noncomputable def Zcd:=cdO "value_kind" "value_kind" 513 179 3 3 139 519
noncomputable def Zce:=fF (Zb 75) "value_kind" "framerune.kinds" 300 144
noncomputable def Zcf:=tS []
noncomputable def Zcg:=uF []
noncomputable def Zch:=tS [("tid",525),("args",526)]
noncomputable def Zci:=tS []
noncomputable def Zcj:=fN (Zb 76) "prim_kind"
noncomputable def Zck:=cdO "prim_kind" "prim_kind" 522 183 2 3 146 527
noncomputable def Zcl:=fF (Zb 76) "prim_kind" "framerune.kinds" 300 151
noncomputable def Zcm:=tS []
noncomputable def Zcn:=uF []
noncomputable def Zco:=tS [("kt",533),("elem",534)]
noncomputable def Zcp:=tS []
noncomputable def Zcq:=fN (Zb 77) "array_kind"
noncomputable def Zcr:=cdO "array_kind" "array_kind" 530 187 2 3 153 535
noncomputable def Zcs:=fF (Zb 77) "array_kind" "framerune.kinds" 300 158
noncomputable def Zct:=tS []
noncomputable def Zcu:=uF []
noncomputable def Zcv:=tS [("kt",541),("i",542)]
noncomputable def Zcw:=tS []
noncomputable def Zcx:=fN (Zb 78) "var_kind"
noncomputable def Zcy:=cdO "var_kind" "var_kind" 538 189 2 3 160 543
noncomputable def Zcz:=fF (Zb 78) "var_kind" "framerune.kinds" 300 165
noncomputable def Zd0:=tS []
noncomputable def Zd1:=uF []
noncomputable def Zd2:=tS [("kt",549),("k",550)]
noncomputable def Zd3:=tS []
noncomputable def Zd4:=fN (Zb 79) "is_value"
noncomputable def Zd5:=cdO "is_value" "is_value" 546 191 2 3 167 551
noncomputable def Zd6:=fF (Zb 79) "is_value" "framerune.kinds" 300 172
noncomputable def Zd7:=tS []
noncomputable def Zd8:=uF []
noncomputable def Zd9:=tS [("kt",557),("k",558),("sort",559)]
noncomputable def Zda:=tS []
noncomputable def Zdb:=fN (Zb 80) "is_var"
noncomputable def Zdc:=cdO "is_var" "is_var" 554 195 2 3 174 560
noncomputable def Zdd:=fF (Zb 80) "is_var" "framerune.kinds" 300 179
noncomputable def Zh9:=tS []
noncomputable def Zha:Obj:=⟨(.type "builtin_function_or_method"),none,(.fields [(.builtin "type.__prepare__"),(.type "type")].toArray),[].toArray⟩
noncomputable def Zhb (P:Params):Obj:=⟨(.type "dict"),none,(.dict [E P "__module__" 664 (.str "framerune.store" 617),E P "__qualname__" 666 (.str "TypeDef" 665),E P "__firstlineno__" 668 (.int 245 667),E P "__init__" 683 (.ref 194),E P "__static_attributes__" 703 (.ref 195)].toArray 5),[].toArray⟩
noncomputable def Zhc:=tS []
noncomputable def Zhd:=uF [(.int 247 0),(.int 4 0),(.ref 193)]
noncomputable def Zhe:Obj:=⟨(.type "code"),none,(.fields [(.str "TypeDef" 659),(.str "TypeDef" 660),(.str "/claim/cut.py" 661),(.int 245 0),(.int 0 0),(.int 0 0),(.int 0 0),(.int 0 0),(.ref 184),(.bool false),(.int 181 0),(.ref 185),.none,.none,.none,.none,(.int 662 0),(.int 245 0),(.str "/claim/cut.py" 663)].toArray),[].toArray⟩
noncomputable def Zhf:Obj:=⟨(.type "frame"),none,.plain,[some (.ref 186),some (.ref 3),some (.ref 183),none,some (.str "framerune.store" 617),none,some (.ref 0)].toArray⟩
noncomputable def Zhg:=tS []
noncomputable def Zhh:=uF []
noncomputable def Zhi:=tS [("self",672),("tid",673),("name",674),("sort",675),("flags",676),("base",677),("params",678),("asm",679),("word",680)]
noncomputable def Zhj:=tS []
noncomputable def Zhk:=fN (Rl 128 0) "TypeDef.__init__"
noncomputable def Zhl:=cdO "__init__" "TypeDef.__init__" 669 247 8 3 188 681
noncomputable def Zhm:=fF (Rl 128 0) "TypeDef.__init__" "framerune.store" 617 193
noncomputable def Zhn:=tS [("asm",684),("base",685),("bounds",686),("cctor",687),("events",688),("fields",689),("finaliser",690),("flags",691),("home",692),("ifaces",693),("impls",694),("methods",695),("name",696),("params",697),("props",698),("sort",699),("tid",700),("under",701),("variances",702)]
noncomputable def Zho (P:Params):Obj:=⟨(.type "dict"),none,(.dict [E P "__module__" 664 (.str "framerune.store" 617),E P "__firstlineno__" 668 (.int 245 667),E P "__init__" 683 (.ref 194),E P "__static_attributes__" 703 (.ref 195),E P "__dict__" 705 (.ref 198),E P "__weakref__" 707 (.ref 199),E P "__doc__" 708 .none].toArray 4),[].toArray⟩
noncomputable def Zhp:Obj:=⟨(.type "type"),none,(.cls ⟨"TypeDef",[(.type "object")],[(.ref 197),(.type "object")],196,"TypeDef",true,[],[],false,none,false⟩),[none,none,some (.str "TypeDef" 657),some (.str "TypeDef" 665),some (.builtin "object.__new__"),some (.bool true)].toArray⟩
noncomputable def Zhq:Obj:=⟨(.type "getset_descriptor"),none,(.fields [(.str "__dict__" 704),(.ref 197),(.builtin "function.__dict__"),(.builtin "function.__dict__#set")].toArray),[].toArray⟩
noncomputable def Zhr:Obj:=⟨(.type "getset_descriptor"),none,(.fields [(.str "__weakref__" 706),(.ref 197),(.builtin "ExceptionGroup.__weakref__"),.none].toArray),[].toArray⟩
noncomputable def Zhs:Obj:=⟨(.type "super"),none,(.fields [(.ref 197),(.ref 197),(.ref 197)].toArray),[].toArray⟩
noncomputable def Zht:Obj:=⟨(.type "builtin_function_or_method"),none,(.fields [(.builtin "object.__init_subclass__"),(.ref 197)].toArray),[].toArray⟩
noncomputable def Zhu:=tS []
noncomputable def Zhv:Obj:=⟨(.type "builtin_function_or_method"),none,(.fields [(.builtin "type.__prepare__"),(.type "type")].toArray),[].toArray⟩
noncomputable def Zhw (P:Params):Obj:=⟨(.type "dict"),none,(.dict [E P "__module__" 718 (.str "framerune.store" 617),E P "__qualname__" 720 (.str "FieldDef" 719),E P "__firstlineno__" 722 (.int 271 721),E P "__init__" 735 (.ref 215),E P "__static_attributes__" 743 (.ref 216)].toArray 5),[].toArray⟩
noncomputable def Zhx:=tS []
noncomputable def Zhy:=uF [(.int 273 0),(.int 4 0),(.ref 214)]
noncomputable def Zhz:Obj:=⟨(.type "code"),none,(.fields [(.str "FieldDef" 713),(.str "FieldDef" 714),(.str "/claim/cut.py" 715),(.int 271 0),(.int 0 0),(.int 0 0),(.int 0 0),(.int 0 0),(.ref 205),(.bool false),(.int 181 0),(.ref 206),.none,.none,.none,.none,(.int 716 0),(.int 271 0),(.str "/claim/cut.py" 717)].toArray),[].toArray⟩
noncomputable def Zi0:Obj:=⟨(.type "frame"),none,.plain,[some (.ref 207),some (.ref 3),some (.ref 204),none,some (.str "framerune.store" 617),none,some (.ref 0)].toArray⟩
noncomputable def Zi1:=tS []
noncomputable def Zi2:=uF []
noncomputable def Zi3:=tS [("self",726),("fid",727),("owner",728),("name",729),("kind",730),("access",731),("flags",732)]
noncomputable def Zi4:=tS []
noncomputable def Zi5:=fN (Rl 129 0) "FieldDef.__init__"
noncomputable def Zi6:=cdO "__init__" "FieldDef.__init__" 723 273 7 3 209 733
noncomputable def Zi7:=fF (Rl 129 0) "FieldDef.__init__" "framerune.store" 617 214
noncomputable def Zi8:=tS [("access",736),("fid",737),("flags",738),("kind",739),("name",740),("owner",741),("value",742)]
noncomputable def Zi9 (P:Params):Obj:=⟨(.type "dict"),none,(.dict [E P "__module__" 718 (.str "framerune.store" 617),E P "__firstlineno__" 722 (.int 271 721),E P "__init__" 735 (.ref 215),E P "__static_attributes__" 743 (.ref 216),E P "__dict__" 745 (.ref 219),E P "__weakref__" 747 (.ref 220),E P "__doc__" 748 .none].toArray 4),[].toArray⟩
noncomputable def Zia:Obj:=⟨(.type "type"),none,(.cls ⟨"FieldDef",[(.type "object")],[(.ref 218),(.type "object")],217,"FieldDef",true,[],[],false,none,false⟩),[none,none,some (.str "FieldDef" 711),some (.str "FieldDef" 719),some (.builtin "object.__new__"),some (.bool true)].toArray⟩
noncomputable def Zib:Obj:=⟨(.type "getset_descriptor"),none,(.fields [(.str "__dict__" 744),(.ref 218),(.builtin "function.__dict__"),(.builtin "function.__dict__#set")].toArray),[].toArray⟩
noncomputable def Zic:Obj:=⟨(.type "getset_descriptor"),none,(.fields [(.str "__weakref__" 746),(.ref 218),(.builtin "ExceptionGroup.__weakref__"),.none].toArray),[].toArray⟩
noncomputable def Zid:Obj:=⟨(.type "super"),none,(.fields [(.ref 218),(.ref 218),(.ref 218)].toArray),[].toArray⟩
noncomputable def Zie:Obj:=⟨(.type "builtin_function_or_method"),none,(.fields [(.builtin "object.__init_subclass__"),(.ref 218)].toArray),[].toArray⟩
noncomputable def Zif:=tS []
noncomputable def Zig:Obj:=⟨(.type "builtin_function_or_method"),none,(.fields [(.builtin "type.__prepare__"),(.type "type")].toArray),[].toArray⟩
noncomputable def Zih (P:Params):Obj:=⟨(.type "dict"),none,(.dict [E P "__module__" 758 (.str "framerune.store" 617),E P "__qualname__" 760 (.str "MethodDef" 759),E P "__firstlineno__" 762 (.int 281 761),E P "__init__" 776 (.ref 236),E P "__static_attributes__" 791 (.ref 237)].toArray 5),[].toArray⟩
noncomputable def Zii:=tS []
noncomputable def Zij:=uF [(.int 283 0),(.int 4 0),(.ref 235)]
noncomputable def Zik:Obj:=⟨(.type "code"),none,(.fields [(.str "MethodDef" 753),(.str "MethodDef" 754),(.str "/claim/cut.py" 755),(.int 281 0),(.int 0 0),(.int 0 0),(.int 0 0),(.int 0 0),(.ref 226),(.bool false),(.int 181 0),(.ref 227),.none,.none,.none,.none,(.int 756 0),(.int 281 0),(.str "/claim/cut.py" 757)].toArray),[].toArray⟩
noncomputable def Zil:Obj:=⟨(.type "frame"),none,.plain,[some (.ref 228),some (.ref 3),some (.ref 225),none,some (.str "framerune.store" 617),none,some (.ref 0)].toArray⟩
noncomputable def Zim:=tS []
noncomputable def Zin:=uF []
noncomputable def Zio:=tS [("self",766),("mid",767),("owner",768),("name",769),("access",770),("flags",771),("ret",772),("params",773)]
noncomputable def Zip:=tS []
noncomputable def Ziq:=fN (Rl 130 0) "MethodDef.__init__"
noncomputable def Zir:=cdO "__init__" "MethodDef.__init__" 763 283 8 3 230 774
noncomputable def Zis:=fF (Rl 130 0) "MethodDef.__init__" "framerune.store" 617 235
noncomputable def Zit:=tS [("access",777),("body",778),("flags",779),("gbounds",780),("gnames",781),("mid",782),("name",783),("native",784),("ngen",785),("owner",786),("params",787),("pflags",788),("pnames",789),("ret",790)]
noncomputable def Ziu (P:Params):Obj:=⟨(.type "dict"),none,(.dict [E P "__module__" 758 (.str "framerune.store" 617),E P "__firstlineno__" 762 (.int 281 761),E P "__init__" 776 (.ref 236),E P "__static_attributes__" 791 (.ref 237),E P "__dict__" 793 (.ref 240),E P "__weakref__" 795 (.ref 241),E P "__doc__" 796 .none].toArray 4),[].toArray⟩
noncomputable def Ziv:Obj:=⟨(.type "type"),none,(.cls ⟨"MethodDef",[(.type "object")],[(.ref 239),(.type "object")],238,"MethodDef",true,[],[],false,none,false⟩),[none,none,some (.str "MethodDef" 751),some (.str "MethodDef" 759),some (.builtin "object.__new__"),some (.bool true)].toArray⟩
noncomputable def Ziw:Obj:=⟨(.type "getset_descriptor"),none,(.fields [(.str "__dict__" 792),(.ref 239),(.builtin "function.__dict__"),(.builtin "function.__dict__#set")].toArray),[].toArray⟩
noncomputable def Zix:Obj:=⟨(.type "getset_descriptor"),none,(.fields [(.str "__weakref__" 794),(.ref 239),(.builtin "ExceptionGroup.__weakref__"),.none].toArray),[].toArray⟩
noncomputable def Ziy:Obj:=⟨(.type "super"),none,(.fields [(.ref 239),(.ref 239),(.ref 239)].toArray),[].toArray⟩
noncomputable def Ziz:Obj:=⟨(.type "builtin_function_or_method"),none,(.fields [(.builtin "object.__init_subclass__"),(.ref 239)].toArray),[].toArray⟩
noncomputable def Zj0:=tS []
noncomputable def Zj1:Obj:=⟨(.type "builtin_function_or_method"),none,(.fields [(.builtin "type.__prepare__"),(.type "type")].toArray),[].toArray⟩
noncomputable def Zj2 (P:Params):Obj:=⟨(.type "dict"),none,(.dict [E P "__module__" 806 (.str "framerune.store" 617),E P "__qualname__" 808 (.str "Body" 807),E P "__firstlineno__" 810 (.int 298 809),E P "__init__" 821 (.ref 257),E P "__static_attributes__" 826 (.ref 258)].toArray 5),[].toArray⟩
noncomputable def Zj3:=tS []
noncomputable def Zj4:=uF [(.int 300 0),(.int 4 0),(.ref 256)]
noncomputable def Zj5:Obj:=⟨(.type "code"),none,(.fields [(.str "Body" 801),(.str "Body" 802),(.str "/claim/cut.py" 803),(.int 298 0),(.int 0 0),(.int 0 0),(.int 0 0),(.int 0 0),(.ref 247),(.bool false),(.int 181 0),(.ref 248),.none,.none,.none,.none,(.int 804 0),(.int 298 0),(.str "/claim/cut.py" 805)].toArray),[].toArray⟩
noncomputable def Zj6:Obj:=⟨(.type "frame"),none,.plain,[some (.ref 249),some (.ref 3),some (.ref 246),none,some (.str "framerune.store" 617),none,some (.ref 0)].toArray⟩
noncomputable def Zj7:=tS []
noncomputable def Zj8:=uF []
noncomputable def Zj9:=tS [("self",814),("locals_",815),("maxstack",816),("code",817),("clauses",818)]
noncomputable def Zja:=tS []
noncomputable def Zjb:=fN (Rl 131 0) "Body.__init__"
noncomputable def Zjc:=cdO "__init__" "Body.__init__" 811 300 5 3 251 819
noncomputable def Zjd:=fF (Rl 131 0) "Body.__init__" "framerune.store" 617 256
noncomputable def Zje:=tS [("clauses",822),("code",823),("locals_",824),("maxstack",825)]
noncomputable def Zjf (P:Params):Obj:=⟨(.type "dict"),none,(.dict [E P "__module__" 806 (.str "framerune.store" 617),E P "__firstlineno__" 810 (.int 298 809),E P "__init__" 821 (.ref 257),E P "__static_attributes__" 826 (.ref 258),E P "__dict__" 828 (.ref 261),E P "__weakref__" 830 (.ref 262),E P "__doc__" 831 .none].toArray 4),[].toArray⟩
noncomputable def Zjg:Obj:=⟨(.type "type"),none,(.cls ⟨"Body",[(.type "object")],[(.ref 260),(.type "object")],259,"Body",true,[],[],false,none,false⟩),[none,none,some (.str "Body" 799),some (.str "Body" 807),some (.builtin "object.__new__"),some (.bool true)].toArray⟩
noncomputable def Zjh:Obj:=⟨(.type "getset_descriptor"),none,(.fields [(.str "__dict__" 827),(.ref 260),(.builtin "function.__dict__"),(.builtin "function.__dict__#set")].toArray),[].toArray⟩
noncomputable def Zji:Obj:=⟨(.type "getset_descriptor"),none,(.fields [(.str "__weakref__" 829),(.ref 260),(.builtin "ExceptionGroup.__weakref__"),.none].toArray),[].toArray⟩
noncomputable def Zjj:Obj:=⟨(.type "super"),none,(.fields [(.ref 260),(.ref 260),(.ref 260)].toArray),[].toArray⟩
noncomputable def Zjk:Obj:=⟨(.type "builtin_function_or_method"),none,(.fields [(.builtin "object.__init_subclass__"),(.ref 260)].toArray),[].toArray⟩
noncomputable def Zjl:=tS []
noncomputable def Zjm:Obj:=⟨(.type "builtin_function_or_method"),none,(.fields [(.builtin "type.__prepare__"),(.type "type")].toArray),[].toArray⟩
noncomputable def Zjn (P:Params):Obj:=⟨(.type "dict"),none,(.dict [E P "__module__" 841 (.str "framerune.store" 617),E P "__qualname__" 843 (.str "Store" 842),E P "__firstlineno__" 845 (.int 305 844),E P "__init__" 852 (.ref 278),E P "__static_attributes__" 860 (.ref 279)].toArray 5),[].toArray⟩
noncomputable def Zjo:=tS []
noncomputable def Zjp:=uF [(.int 307 0),(.int 4 0),(.ref 277)]
noncomputable def Zjq:Obj:=⟨(.type "code"),none,(.fields [(.str "Store" 836),(.str "Store" 837),(.str "/claim/cut.py" 838),(.int 305 0),(.int 0 0),(.int 0 0),(.int 0 0),(.int 0 0),(.ref 268),(.bool false),(.int 181 0),(.ref 269),.none,.none,.none,.none,(.int 839 0),(.int 305 0),(.str "/claim/cut.py" 840)].toArray),[].toArray⟩
noncomputable def Zjr:Obj:=⟨(.type "frame"),none,.plain,[some (.ref 270),some (.ref 3),some (.ref 267),none,some (.str "framerune.store" 617),none,some (.ref 0)].toArray⟩
noncomputable def Zjs:=tS []
noncomputable def Zjt:=uF []
noncomputable def Zju:=tS [("self",849)]
noncomputable def Zjv:=tS []
noncomputable def Zjw:=fN (Rl 132 0) "Store.__init__"
noncomputable def Zjx:=cdO "__init__" "Store.__init__" 846 307 1 3 272 850
noncomputable def Zjy:=fF (Rl 132 0) "Store.__init__" "framerune.store" 617 277
noncomputable def Zjz:=tS [("asms",853),("entry",854),("fields_",855),("kt",856),("methods",857),("names",858),("types",859)]
noncomputable def Zk0 (P:Params):Obj:=⟨(.type "dict"),none,(.dict [E P "__module__" 841 (.str "framerune.store" 617),E P "__firstlineno__" 845 (.int 305 844),E P "__init__" 852 (.ref 278),E P "__static_attributes__" 860 (.ref 279),E P "__dict__" 862 (.ref 282),E P "__weakref__" 864 (.ref 283),E P "__doc__" 865 .none].toArray 4),[].toArray⟩
noncomputable def Zk1:Obj:=⟨(.type "type"),none,(.cls ⟨"Store",[(.type "object")],[(.ref 281),(.type "object")],280,"Store",true,[],[],false,none,false⟩),[none,none,some (.str "Store" 834),some (.str "Store" 842),some (.builtin "object.__new__"),some (.bool true)].toArray⟩
noncomputable def Zk2:Obj:=⟨(.type "getset_descriptor"),none,(.fields [(.str "__dict__" 861),(.ref 281),(.builtin "function.__dict__"),(.builtin "function.__dict__#set")].toArray),[].toArray⟩
noncomputable def Zk3:Obj:=⟨(.type "getset_descriptor"),none,(.fields [(.str "__weakref__" 863),(.ref 281),(.builtin "ExceptionGroup.__weakref__"),.none].toArray),[].toArray⟩
noncomputable def Zk4:Obj:=⟨(.type "super"),none,(.fields [(.ref 281),(.ref 281),(.ref 281)].toArray),[].toArray⟩
noncomputable def Zk5:Obj:=⟨(.type "builtin_function_or_method"),none,(.fields [(.builtin "object.__init_subclass__"),(.ref 281)].toArray),[].toArray⟩
noncomputable def Zk6:=tS []
noncomputable def Zk7:=uF []
noncomputable def Zk8:=tS [("count",871),("out",872),("place",873)]
noncomputable def Zk9:=tS []
noncomputable def Zka:=fN (Zb 133) "plain_names"
noncomputable def Zkb:=cdO "plain_names" "plain_names" 868 315 1 3 286 874
noncomputable def Zkc:=fF (Zb 133) "plain_names" "framerune.store" 617 291
noncomputable def Zkd:=tS []
noncomputable def Zke:=uF []
noncomputable def Zkf:=tS [("store",880),("tid",881),("kind",882),("t",883)]
noncomputable def Zkg:=tS []
noncomputable def Zkh:=fN (Zb 134) "add_iface"
noncomputable def Zki:=cdO "add_iface" "add_iface" 877 320 3 3 293 884
noncomputable def Zkj:=fF (Zb 134) "add_iface" "framerune.store" 617 298
noncomputable def Zkk:=tS []
noncomputable def Zkl:=uF []
noncomputable def Zkm:=tS [("store",890),("fid",891),("tid",892),("name",893),("kind",894),("access",895),("flags",896),("old",897)]
noncomputable def Zkn:=tS []
noncomputable def Zko:=fN (Zb 135) "put_field_at"
noncomputable def Zkp:=cdO "put_field_at" "put_field_at" 887 324 7 3 300 898
noncomputable def Zkq:=fF (Zb 135) "put_field_at" "framerune.store" 617 305
noncomputable def Zkr:=tS []
noncomputable def Zks:=uF []
noncomputable def Zkt:=tS [("flags",904)]
noncomputable def Zku:=tS []
noncomputable def Zkv:=fN (Zb 136) "kept_flags"
noncomputable def Zkw:=cdO "kept_flags" "kept_flags" 901 334 1 3 307 905
noncomputable def Zkx:=fF (Zb 136) "kept_flags" "framerune.store" 617 312
noncomputable def Zky:=tS []
noncomputable def Zkz:=uF []
noncomputable def Zl0:=tS [("store",911),("mid",912),("tid",913),("name",914),("access",915),("flags",916),("ret",917),("params",918),("old",919),("t",920)]
noncomputable def Zl1:=tS []
noncomputable def Zl2:=fN (Zb 137) "put_method_at"
noncomputable def Zl3:=cdO "put_method_at" "put_method_at" 908 338 8 3 314 921
noncomputable def Zl4:=fF (Zb 137) "put_method_at" "framerune.store" 617 319
noncomputable def Zl5:=tS []
noncomputable def Zl6:=uF []
noncomputable def Zl7:=tS [("store",927),("mid",928),("m",929),("t",930)]
noncomputable def Zl8:=tS []
noncomputable def Zl9:=fN (Zb 138) "note_method"
noncomputable def Zla:=cdO "note_method" "note_method" 924 354 2 3 321 931
noncomputable def Zlb:=fF (Zb 138) "note_method" "framerune.store" 617 326
noncomputable def Zlc:=tS []
noncomputable def Zld:=uF []
noncomputable def Zle:=tS [("store",937),("mid",938),("locals_",939),("maxstack",940),("code",941),("clauses",942),("rows",943),("ins",944),("edges",945),("clause",946)]
noncomputable def Zlf:=tS []
noncomputable def Zlg:=fN (Zb 139) "set_body"
noncomputable def Zlh:=cdO "set_body" "set_body" 934 362 6 3 328 947
noncomputable def Zli:=fF (Zb 139) "set_body" "framerune.store" 617 333
noncomputable def Zlj:=tS []
noncomputable def Zlk:=uF []
noncomputable def Zll:=tS [("rows",953),("row",954)]
noncomputable def Zlm:=tS []
noncomputable def Zln:=fN (Zb 140) "put_once"
noncomputable def Zlo:=cdO "put_once" "put_once" 950 370 2 3 335 955
noncomputable def Zlp:=fF (Zb 140) "put_once" "framerune.store" 617 340
noncomputable def Zlq:=tS []
noncomputable def Zlr:=uF []
noncomputable def Zls:=tS [("store",961),("tid",962),("name",963),("kind",964),("getter",965),("setter",966),("index_kinds",967)]
noncomputable def Zlt:=tS []
noncomputable def Zlu:=fN (Zb 141) "add_prop"
noncomputable def Zlv:=cdO "add_prop" "add_prop" 958 373 7 3 342 968
noncomputable def Zlw:=fF (Zb 141) "add_prop" "framerune.store" 617 347
noncomputable def Zlx:=tS []
noncomputable def Zly:=uF []
noncomputable def Zlz:=tS [("tid",974),("with_text",975)]
noncomputable def Zm0:=tS []
noncomputable def Zm1:=fN (Zb 142) "exception_ctor"
noncomputable def Zm2:=cdO "exception_ctor" "exception_ctor" 971 375 2 3 349 976
noncomputable def Zm3:=fF (Zb 142) "exception_ctor" "framerune.store" 617 354
noncomputable def Zm4:=tS []
noncomputable def Zm5:=uF []
noncomputable def Zm6:=tS [("store",982),("tid",983),("t",984),("args",985),("place",986)]
noncomputable def Zm7:=tS []
noncomputable def Zm8:=fN (Zb 143) "self_kind"
noncomputable def Zm9:=cdO "self_kind" "self_kind" 979 377 2 3 356 987
noncomputable def Zma:=fF (Zb 143) "self_kind" "framerune.store" 617 361
noncomputable def Zmb:=tS []
noncomputable def Zmc:=uF []
noncomputable def Zmd:=tS [("store",993),("tid",994),("args",995),("sort",996)]
noncomputable def Zme:=tS []
noncomputable def Zmf:=fN (Zb 144) "kind_with"
noncomputable def Zmg:=cdO "kind_with" "kind_with" 990 385 3 3 363 997
noncomputable def Zmh:=fF (Zb 144) "kind_with" "framerune.store" 617 368
noncomputable def Zmi:=tS []
noncomputable def Zmj:=uF []
noncomputable def Zmk:=tS [("m",1003)]
noncomputable def Zml:=tS []
noncomputable def Zmm:=fN (Zb 145) "is_virtual"
noncomputable def Zmn:=cdO "is_virtual" "is_virtual" 1000 390 1 3 370 1004
noncomputable def Zmo:=fF (Zb 145) "is_virtual" "framerune.store" 617 375
noncomputable def Zqp:Obj:=⟨(.type "dict"),none,(.dict [di 0 1033 0 1009,di 20 1035 0 1009,di 32 1037 1 1011,di 33 1039 2 1013,di 37 1041 0 1009,di 38 1043 0 1009,di 40 1045 9 1027,di 42 1047 0 1009,di 56 1049 5 1019,di 57 1051 5 1019,di 58 1053 5 1019,di 59 1055 5 1019,di 60 1057 5 1019,di 61 1059 5 1019,di 62 1061 5 1019,di 63 1063 5 1019,di 64 1065 5 1019,di 65 1067 5 1019,di 66 1069 5 1019,di 67 1071 5 1019,di 68 1073 5 1019,di 69 1075 6 1021,di 70 1077 0 1009,di 71 1079 0 1009,di 72 1081 0 1009,di 73 1083 0 1009,di 74 1085 0 1009,di 75 1087 0 1009,di 76 1089 0 1009,di 77 1091 0 1009,di 80 1093 0 1009,di 81 1095 0 1009,di 82 1097 0 1009,di 83 1099 0 1009,di 84 1101 0 1009,di 85 1103 0 1009,di 88 1105 0 1009,di 89 1107 0 1009,di 90 1109 0 1009,di 91 1111 0 1009,di 92 1113 0 1009,di 93 1115 0 1009,di 94 1117 0 1009,di 95 1119 0 1009,di 96 1121 0 1009,di 97 1123 0 1009,di 98 1125 0 1009,di 99 1127 0 1009,di 100 1129 0 1009,di 101 1131 0 1009,di 102 1133 0 1009,di 103 1135 0 1009,di 104 1137 0 1009,di 105 1139 0 1009,di 106 1141 0 1009,di 109 1143 0 1009,di 110 1145 0 1009,di 111 1147 9 1027,di 113 1149 7 1023,di 114 1151 10 1029,di 115 1153 9 1027,di 116 1155 7 1023,di 117 1157 7 1023,di 121 1159 7 1023,di 122 1161 0 1009,di 123 1163 8 1025,di 124 1165 8 1025,di 125 1167 8 1025,di 126 1169 8 1025,di 127 1171 8 1025,di 128 1173 8 1025,di 129 1175 7 1023,di 130 1177 0 1009,di 131 1179 0 1009,di 132 1181 0 1009,di 133 1183 0 1009,di 134 1185 0 1009,di 135 1187 0 1009,di 136 1189 0 1009,di 137 1191 0 1009,di 140 1193 7 1023,di 141 1195 7 1023,di 142 1197 0 1009,di 143 1199 7 1023,di 163 1201 7 1023,di 164 1203 7 1023,di 165 1205 7 1023,di 179 1207 0 1009,di 180 1209 0 1009,di 181 1211 0 1009,di 182 1213 0 1009,di 183 1215 0 1009,di 184 1217 0 1009,di 185 1219 0 1009,di 186 1221 0 1009,di 208 1223 11 1031,di 209 1225 0 1009,di 210 1227 0 1009,di 211 1229 0 1009,di 214 1231 0 1009,di 215 1233 0 1009,di 216 1235 0 1009,di 217 1237 0 1009,di 218 1239 0 1009,di 219 1241 0 1009,di 220 1243 0 1009,di 221 1245 5 1019,di 223 1247 0 1009,di 65025 1249 0 1009,di 65026 1251 0 1009,di 65027 1253 0 1009,di 65028 1255 0 1009,di 65029 1257 0 1009,di 65030 1259 9 1027,di 65031 1261 9 1027,di 65033 1263 3 1015,di 65034 1265 3 1015,di 65035 1267 3 1015,di 65036 1269 4 1017,di 65037 1271 4 1017,di 65038 1272 4 1017,di 65041 1273 0 1009,di 65045 1274 7 1023,di 65046 1275 7 1023,di 65050 1276 0 1009,di 65054 1277 0 1009].toArray 126),[].toArray⟩
noncomputable def Zqq:Obj:=⟨(.type "dict"),none,(.dict [di 65 1067 5 1019,di 66 1069 5 1019,di 67 1071 5 1019,di 68 1073 5 1019,di 69 1075 6 1021,di 70 1077 0 1009,di 71 1079 0 1009,di 72 1081 0 1009,di 73 1083 0 1009,di 74 1085 0 1009,di 75 1087 0 1009,di 76 1089 0 1009,di 77 1091 0 1009,di 80 1093 0 1009,di 81 1095 0 1009,di 82 1097 0 1009,di 83 1099 0 1009].toArray 17),[].toArray⟩
noncomputable def Zqr:Obj:=⟨(.type "dict"),none,(.dict [di 84 1101 0 1009,di 85 1103 0 1009,di 88 1105 0 1009,di 89 1107 0 1009,di 90 1109 0 1009,di 91 1111 0 1009,di 92 1113 0 1009,di 93 1115 0 1009,di 94 1117 0 1009,di 95 1119 0 1009,di 96 1121 0 1009,di 97 1123 0 1009,di 98 1125 0 1009,di 99 1127 0 1009,di 100 1129 0 1009,di 101 1131 0 1009,di 102 1133 0 1009].toArray 17),[].toArray⟩
noncomputable def Zqs:Obj:=⟨(.type "dict"),none,(.dict [di 103 1135 0 1009,di 104 1137 0 1009,di 105 1139 0 1009,di 106 1141 0 1009,di 109 1143 0 1009,di 110 1145 0 1009,di 111 1147 9 1027,di 113 1149 7 1023,di 114 1151 10 1029,di 115 1153 9 1027,di 116 1155 7 1023,di 117 1157 7 1023,di 121 1159 7 1023,di 122 1161 0 1009,di 123 1163 8 1025,di 124 1165 8 1025,di 125 1167 8 1025].toArray 17),[].toArray⟩
noncomputable def Zqt:Obj:=⟨(.type "dict"),none,(.dict [di 126 1169 8 1025,di 127 1171 8 1025,di 128 1173 8 1025,di 129 1175 7 1023,di 130 1177 0 1009,di 131 1179 0 1009,di 132 1181 0 1009,di 133 1183 0 1009,di 134 1185 0 1009,di 135 1187 0 1009,di 136 1189 0 1009,di 137 1191 0 1009,di 140 1193 7 1023,di 141 1195 7 1023,di 142 1197 0 1009,di 143 1199 7 1023,di 163 1201 7 1023].toArray 17),[].toArray⟩
noncomputable def Zqu:Obj:=⟨(.type "dict"),none,(.dict [di 164 1203 7 1023,di 165 1205 7 1023,di 179 1207 0 1009,di 180 1209 0 1009,di 181 1211 0 1009,di 182 1213 0 1009,di 183 1215 0 1009,di 184 1217 0 1009,di 185 1219 0 1009,di 186 1221 0 1009,di 208 1223 11 1031,di 209 1225 0 1009,di 210 1227 0 1009,di 211 1229 0 1009,di 214 1231 0 1009,di 215 1233 0 1009,di 216 1235 0 1009].toArray 17),[].toArray⟩
noncomputable def Zqv:Obj:=⟨(.type "dict"),none,(.dict [di 217 1237 0 1009,di 218 1239 0 1009,di 219 1241 0 1009,di 220 1243 0 1009,di 221 1245 5 1019,di 223 1247 0 1009,di 65025 1249 0 1009,di 65026 1251 0 1009,di 65027 1253 0 1009,di 65028 1255 0 1009,di 65029 1257 0 1009,di 65030 1259 9 1027,di 65031 1261 9 1027,di 65033 1263 3 1015,di 65034 1265 3 1015,di 65035 1267 3 1015,di 65036 1269 4 1017].toArray 17),[].toArray⟩
noncomputable def Zqw:Obj:=⟨(.type "dict"),none,(.dict [di 65037 1271 4 1017,di 65038 1272 4 1017,di 65041 1273 0 1009,di 65045 1274 7 1023,di 65046 1275 7 1023,di 65050 1276 0 1009,di 65054 1277 0 1009].toArray 7),[].toArray⟩
noncomputable def Ztg:=tS []
noncomputable def Zth:=uF []
noncomputable def Zti:=tS [("op",1289)]
noncomputable def Ztj:=tS []
noncomputable def Ztk:=fN (Zb 160) "is_branch"
noncomputable def Ztl:=cdO "is_branch" "is_branch" 1286 406 1 3 385 1290
noncomputable def Ztm:=fF (Zb 160) "is_branch" "framerune.ops" 1007 390
noncomputable def Ztn:=tS []
noncomputable def Zto:=uF []
noncomputable def Ztp:=tS [("rows",1301),("places",1302),("count",1303),("op",1304),("operand",1305),("code",1306)]
noncomputable def Ztq:=tS []
noncomputable def Ztr:=fN (Zb 163) "settle"
noncomputable def Zts:=cdO "settle" "settle" 1298 410 1 3 392 1307
noncomputable def Ztt:=fF (Zb 163) "settle" "framerune.corelib" 1293 397
noncomputable def Ztu:=tS []
noncomputable def Ztx:=uF []
noncomputable def Zty:=tS [("store",1313),("tid",1314),("name",1315),("kind",1316),("getter",1317),("setter",1318),("index_kinds",1319),("row",1320)]
noncomputable def Ztz:=tS []
noncomputable def Zu0:=fN (Zb 164) "put_prop"
noncomputable def Zu1:=cdO "put_prop" "put_prop" 1310 426 7 3 399 1321
noncomputable def Zu2:=fF (Zb 164) "put_prop" "framerune.corelib" 1293 404
noncomputable def Zu3:=tS []
noncomputable def Zu4:=uF []
noncomputable def Zu5:=tS [("store",1327),("tid",1328)]
noncomputable def Zu6:=tS []
noncomputable def Zu7:=fN (Zb 165) "plain_class"
noncomputable def Zu8:=cdO "plain_class" "plain_class" 1324 431 2 3 406 1329
noncomputable def Zu9:=fF (Zb 165) "plain_class" "framerune.corelib" 1293 411
noncomputable def Zua:=tS []
noncomputable def Zub:=uF []
noncomputable def Zuc:=tS [("owner",1335),("mid",1336)]
noncomputable def Zud:=tS []
noncomputable def Zue:=fN (Zb 166) "call_of"
noncomputable def Zuf:=cdO "call_of" "call_of" 1332 433 2 3 413 1337
noncomputable def Zug:=fF (Zb 166) "call_of" "framerune.corelib" 1293 418
noncomputable def Zuh:=tS []
noncomputable def Zui:=uF []
noncomputable def Zuj:=tS [("tid",1343)]
noncomputable def Zuk:=tS []
noncomputable def Zul:=fN (Zb 167) "ctor_of"
noncomputable def Zum:=cdO "ctor_of" "ctor_of" 1340 435 1 3 420 1344
noncomputable def Zun:=fF (Zb 167) "ctor_of" "framerune.corelib" 1293 425
noncomputable def Zuo:=tS []
noncomputable def Zup:=uF []
noncomputable def Zuq:=tS [("store",1350),("tid",1351),("text",1352)]
noncomputable def Zur:=tS []
noncomputable def Zus:=fN (Zb 168) "throw_rows"
noncomputable def Zut:=cdO "throw_rows" "throw_rows" 1347 439 3 3 427 1353
noncomputable def Zuu:=fF (Zb 168) "throw_rows" "framerune.corelib" 1293 432
noncomputable def Zuv:=tS []
noncomputable def Zuw:=uF []
noncomputable def Zux:=tS [("store",1374)]
noncomputable def Zuy:=tS []
noncomputable def Zuz:=fN (Zb 176) "load_items"
noncomputable def Zv0:=cdO "load_items" "load_items" 1371 448 1 3 434 1375
noncomputable def Zv1:=fF (Zb 176) "load_items" "framerune.corecoll" 1356 439
noncomputable def Zv2:=tS []
noncomputable def Zv3:=uF []
noncomputable def Zv4:=tS [("store",1381)]
noncomputable def Zv5:=tS []
noncomputable def Zv6:=fN (Zb 177) "load_count"
noncomputable def Zv7:=cdO "load_count" "load_count" 1378 450 1 3 441 1382
noncomputable def Zv8:=fF (Zb 177) "load_count" "framerune.corecoll" 1356 446
noncomputable def Zv9:=tS []
noncomputable def Zva:=uF []
noncomputable def Zvb:=tS [("store",1388),("fid",1389),("op",1390),("fref",1391)]
noncomputable def Zvc:=tS []
noncomputable def Zvd:=fN (Zb 178) "add_to"
noncomputable def Zve:=cdO "add_to" "add_to" 1385 452 3 3 448 1392
noncomputable def Zvf:=fF (Zb 178) "add_to" "framerune.corecoll" 1356 453
noncomputable def Zvg:=tS []
noncomputable def Zvh:=uF []
noncomputable def Zvi:=tS [("local",1398),("op",1399)]
noncomputable def Zvj:=tS []
noncomputable def Zvk:=fN (Zb 179) "step_local"
noncomputable def Zvl:=cdO "step_local" "step_local" 1395 455 2 3 455 1400
noncomputable def Zvm:=fF (Zb 179) "step_local" "framerune.corecoll" 1356 460
noncomputable def Zvn:=tS []
noncomputable def Zvo:=uF []
noncomputable def Zvp:=tS [("store",1406),("rows",1407)]
noncomputable def Zvq:=tS []
noncomputable def Zvr:=fN (Zb 180) "check_index"
noncomputable def Zvs:=cdO "check_index" "check_index" 1403 457 1 3 462 1408
noncomputable def Zvt:=fF (Zb 180) "check_index" "framerune.corecoll" 1356 467
noncomputable def Zvu:=tS []
noncomputable def Zvv:=uF []
noncomputable def Zvw:=tS [("store",1414),("mid",1415),("name",1416),("access",1417),("flags",1418),("ret",1419),("params",1420),("locals_",1421),("depth",1422),("rows",1423)]
noncomputable def Zvx:=tS []
noncomputable def Zvy:=fN (Zb 181) "put_member"
noncomputable def Zvz:=cdO "put_member" "put_member" 1411 460 10 3 469 1424
noncomputable def Zw0:=fF (Zb 181) "put_member" "framerune.corecoll" 1356 474
noncomputable def Zw1:=tS []
noncomputable def Zw2:=uF []
noncomputable def Zw3:=tS [("store",1430),("item",1431),("rows",1432)]
noncomputable def Zw4:=tS []
noncomputable def Zw5:=fN (Zb 182) "grow_rows"
noncomputable def Zw6:=cdO "grow_rows" "grow_rows" 1427 463 1 3 476 1433
noncomputable def Zw7:=fF (Zb 182) "grow_rows" "framerune.corecoll" 1356 481
noncomputable def Zw8:=tS []
noncomputable def Zw9:=uF []
noncomputable def Zwa:=tS [("store",1439),("item",1440),("rows",1441)]
noncomputable def Zwb:=tS []
noncomputable def Zwc:=fN (Zb 183) "add_rows"
noncomputable def Zwd:=cdO "add_rows" "add_rows" 1436 473 1 3 483 1442
noncomputable def Zwe:=fF (Zb 183) "add_rows" "framerune.corecoll" 1356 488
noncomputable def Zwf:=tS []
noncomputable def Zwg:=uF []
noncomputable def Zwh:=tS [("store",1448),("item",1449),("rows",1450)]
noncomputable def Zwi:=tS []
noncomputable def Zwj:=fN (Zb 184) "set_rows"
noncomputable def Zwk:=cdO "set_rows" "set_rows" 1445 478 1 3 490 1451
noncomputable def Zwl:=fF (Zb 184) "set_rows" "framerune.corecoll" 1356 495
noncomputable def Zwm:=tS []
noncomputable def Zwn:=uF []
noncomputable def Zwo:=tS [("store",1457),("item",1458),("rows",1459)]
noncomputable def Zwp:=tS []
noncomputable def Zwq:=fN (Zb 185) "remove_rows"
noncomputable def Zwr:=cdO "remove_rows" "remove_rows" 1454 482 1 3 497 1460
noncomputable def Zws:=fF (Zb 185) "remove_rows" "framerune.corecoll" 1356 502
noncomputable def Zwt:=tS []
noncomputable def Zwu:=uF []
noncomputable def Zwv:=tS [("store",1466),("item",1467),("rows",1468)]
noncomputable def Zww:=tS []
noncomputable def Zwx:=fN (Zb 186) "insert_rows"
noncomputable def Zwy:=cdO "insert_rows" "insert_rows" 1463 490 1 3 504 1469
noncomputable def Zwz:=fF (Zb 186) "insert_rows" "framerune.corecoll" 1356 509
noncomputable def Zx0:=tS []
noncomputable def Zx1:=uF []
noncomputable def Zx2:=tS [("store",1475),("item",1476),("rows",1477)]
noncomputable def Zx3:=tS []
noncomputable def Zx4:=fN (Zb 187) "clear_rows"
noncomputable def Zx5:=cdO "clear_rows" "clear_rows" 1472 500 1 3 511 1478
noncomputable def Zx6:=fF (Zb 187) "clear_rows" "framerune.corecoll" 1356 516
noncomputable def Zx7:=tS []
noncomputable def Zx8:=uF []
noncomputable def Zx9:=tS [("store",1484),("item",1485),("rows",1486)]
noncomputable def Zxa:=tS []
noncomputable def Zxb:=fN (Zb 188) "contains_rows"
noncomputable def Zxc:=cdO "contains_rows" "contains_rows" 1481 506 1 3 518 1487
noncomputable def Zxd:=fF (Zb 188) "contains_rows" "framerune.corecoll" 1356 523
noncomputable def Zxe:=tS []
noncomputable def Zxf:=uF []
noncomputable def Zxg:=tS [("store",1493)]
noncomputable def Zxh:=tS []
noncomputable def Zxi:=fN (Zb 189) "install_list_fields"
noncomputable def Zxj:=cdO "install_list_fields" "install_list_fields" 1490 512 1 3 525 1494
noncomputable def Zxk:=fF (Zb 189) "install_list_fields" "framerune.corecoll" 1356 530
noncomputable def Zxl:=tS []
noncomputable def Zxm:=uF []
noncomputable def Zxn:=tS [("store",1500),("item",1501),("own",1502),("walker",1503),("opening",1504),("get",1505)]
noncomputable def Zxo:=tS []
noncomputable def Zxp:=fN (Zb 190) "install_list_reading"
noncomputable def Zxq:=cdO "install_list_reading" "install_list_reading" 1497 516 1 3 532 1506
noncomputable def Zxr:=fF (Zb 190) "install_list_reading" "framerune.corecoll" 1356 537
noncomputable def Zxs:=tS []
noncomputable def Zxt:=uF []
noncomputable def Zxu:=tS [("store",1512),("item",1513),("full",1514)]
noncomputable def Zxv:=tS []
noncomputable def Zxw:=fN (Zb 191) "install_list_writing"
noncomputable def Zxx:=cdO "install_list_writing" "install_list_writing" 1509 527 1 3 539 1515
noncomputable def Zxy:=fF (Zb 191) "install_list_writing" "framerune.corecoll" 1356 544
noncomputable def Yar:=tS []
noncomputable def Yas:=uF []
noncomputable def Yat:=tS [("store",1521),("mid",1522),("name",1523),("flags",1524),("ret",1525),("params",1526),("locals_",1527),("depth",1528),("rows",1529)]
noncomputable def Yau:=tS []
noncomputable def Yav:=fN (Zb 192) "put_walker"
noncomputable def Yaw:=cdO "put_walker" "put_walker" 1518 536 9 3 546 1530
noncomputable def Yax:=fF (Zb 192) "put_walker" "framerune.corecoll" 1356 551
noncomputable def Yay:=tS []
noncomputable def Yaz:=uF []
noncomputable def Yb0:=tS [("store",1536),("fid",1537)]
noncomputable def Yb1:=tS []
noncomputable def Yb2:=fN (Zb 193) "walker_field"
noncomputable def Yb3:=cdO "walker_field" "walker_field" 1533 539 2 3 553 1538
noncomputable def Yb4:=fF (Zb 193) "walker_field" "framerune.corecoll" 1356 558
noncomputable def Yb5:=tS []
noncomputable def Yb6:=uF []
noncomputable def Yb7:=tS [("store",1544),("fid",1545)]
noncomputable def Yb8:=tS []
noncomputable def Yb9:=fN (Zb 194) "walker_list"
noncomputable def Yba:=cdO "walker_list" "walker_list" 1541 541 2 3 560 1546
noncomputable def Ybb:=fF (Zb 194) "walker_list" "framerune.corecoll" 1356 565
noncomputable def Ybc:=tS []
noncomputable def Ybd:=uF []
noncomputable def Ybe:=tS [("store",1552),("own",1553),("version",1554)]
noncomputable def Ybf:=tS []
noncomputable def Ybg:=fN (Zb 195) "walker_start"
noncomputable def Ybh:=cdO "walker_start" "walker_start" 1549 543 1 3 567 1555
noncomputable def Ybi:=fF (Zb 195) "walker_start" "framerune.corecoll" 1356 572
noncomputable def Ybj:=tS []
noncomputable def Ybk:=uF []
noncomputable def Ybl:=tS [("store",1561),("own",1562),("item",1563),("rows",1564)]
noncomputable def Ybm:=tS []
noncomputable def Ybn:=fN (Zb 196) "move_rows"
noncomputable def Ybo:=cdO "move_rows" "move_rows" 1558 547 1 3 574 1565
noncomputable def Ybp:=fF (Zb 196) "move_rows" "framerune.corecoll" 1356 579
noncomputable def Ybq:=tS []
noncomputable def Ybr:=uF []
noncomputable def Ybs:=tS [("store",1571),("item",1572),("walked",1573)]
noncomputable def Ybt:=tS []
noncomputable def Ybu:=fN (Zb 197) "install_walker"
noncomputable def Ybv:=cdO "install_walker" "install_walker" 1568 558 1 3 581 1574
noncomputable def Ybw:=fF (Zb 197) "install_walker" "framerune.corecoll" 1356 586
noncomputable def Ybx:=tS []
noncomputable def Yby:=uF []
noncomputable def Ybz:=tS [("store",1580),("item",1581)]
noncomputable def Yc0:=tS []
noncomputable def Yc1:=fN (Zb 198) "install_core_list"
noncomputable def Yc2:=cdO "install_core_list" "install_core_list" 1577 571 1 3 588 1582
noncomputable def Yc3:=fF (Zb 198) "install_core_list" "framerune.corecoll" 1356 593
noncomputable def Yc4:=tS []
noncomputable def Yc5:=uF []
noncomputable def Yc6:=fN (Zb 200) "_law_run"
noncomputable def Yc7:Obj:=⟨(.type "code"),none,(.fields [(.str "_law_run" 1587),(.str "_law_run" 1588),(.str "/claim/cut.py" 1589),(.int 581 0),(.int 3 0),(.int 0 0),(.int 0 0),(.int 3 0),(.ref 595),(.bool true),(.int 181 0),(.ref 596),.none,.none,.none,(.ref 597),(.int 1590 0),(.int 581 0),(.str "/claim/cut.py" 1591)].toArray),[].toArray⟩
noncomputable def Yc8:=fF (Zb 200) "_law_run" "law_xm0272_01" 1585 598
noncomputable def Yc9:=tS []
noncomputable def Yca:=uF []
noncomputable def Ycb:=fN (Zb 201) "_law_rare"
noncomputable def Ycc:Obj:=⟨(.type "code"),none,(.fields [(.str "_law_rare" 1593),(.str "_law_rare" 1594),(.str "/claim/cut.py" 1595),(.int 626 0),(.int 5 0),(.int 0 0),(.int 0 0),(.int 3 0),(.ref 600),(.bool true),(.int 181 0),(.ref 601),.none,.none,.none,(.ref 602),(.int 1596 0),(.int 626 0),(.str "/claim/cut.py" 1597)].toArray),[].toArray⟩
noncomputable def Ycd:=fF (Zb 201) "_law_rare" "law_xm0272_01" 1585 603
noncomputable def Yce:=tS []
noncomputable def Ycf:=uF []
noncomputable def Ycg:=tS [("op",1602),("x",1603),("stack",1604),("a",1605),("b",1606),("ip",1607)]
noncomputable def Ych:=tS []
noncomputable def Yci:=fN (Zb 202) "_law_sides"
noncomputable def Ycj:=cdO "_law_sides" "_law_sides" 1599 665 6 3 605 1608
noncomputable def Yck:=fF (Zb 202) "_law_sides" "law_xm0272_01" 1585 610
noncomputable def Ycl:=tS []
noncomputable def Ycm:=uF []
noncomputable def Ycn:=fN (Zb 203) "_law_new"
noncomputable def Yco:Obj:=⟨(.type "code"),none,(.fields [(.str "_law_new" 1611),(.str "_law_new" 1612),(.str "/claim/cut.py" 1613),(.int 686 0),(.int 3 0),(.int 0 0),(.int 0 0),(.int 3 0),(.ref 612),(.bool true),(.int 181 0),(.ref 613),.none,.none,.none,(.ref 614),(.int 1614 0),(.int 686 0),(.str "/claim/cut.py" 1615)].toArray),[].toArray⟩
noncomputable def Ycp:=fF (Zb 203) "_law_new" "law_xm0272_01" 1585 615
noncomputable def Ycq:=tS []
noncomputable def Ycr:=uF []
noncomputable def Ycs:=tS [("w",1620),("number",1621)]
noncomputable def Yct:=tS []
noncomputable def Ycu:=fN (Zb 204) "_law_bare_new"
noncomputable def Ycv:=cdO "_law_bare_new" "_law_bare_new" 1617 691 1 3 617 1622
noncomputable def Ycw:=fF (Zb 204) "_law_bare_new" "law_xm0272_01" 1585 622
noncomputable def Ycx:=tS []
noncomputable def Ycy:=uF []
noncomputable def Ycz:=fN (Zb 205) "_law_held"
noncomputable def Yd0:Obj:=⟨(.type "code"),none,(.fields [(.str "_law_held" 1625),(.str "_law_held" 1626),(.str "/claim/cut.py" 1627),(.int 698 0),(.int 2 0),(.int 0 0),(.int 0 0),(.int 3 0),(.ref 624),(.bool true),(.int 181 0),(.ref 625),.none,.none,.none,(.ref 626),(.int 1628 0),(.int 698 0),(.str "/claim/cut.py" 1629)].toArray),[].toArray⟩
noncomputable def Yd1:=fF (Zb 205) "_law_held" "law_xm0272_01" 1585 627
noncomputable def Yd2:=tS []
noncomputable def Yd3:=uF []
noncomputable def Yd4:=tS [("w",1634),("one",1635),("mid",1636),("args",1637)]
noncomputable def Yd5:=tS []
noncomputable def Yd6:=fN (Zb 206) "_law_deed"
noncomputable def Yd7:=cdO "_law_deed" "_law_deed" 1631 701 4 3 629 1638
noncomputable def Yd8:=fF (Zb 206) "_law_deed" "law_xm0272_01" 1585 634
noncomputable def Yd9:=tS []
noncomputable def Yda:=uF []
noncomputable def Ydb:=tS [("w",1644),("one",1645),("other",1646),("cells",1647),("count",1648),("v",1649)]
noncomputable def Ydc:=tS []
noncomputable def Ydd:=fN (Zb 207) "_law_alike"
noncomputable def Yde:=cdO "_law_alike" "_law_alike" 1641 704 1 3 636 1650
noncomputable def Ydf:=fF (Zb 207) "_law_alike" "law_xm0272_01" 1585 641
noncomputable def Ydg:=tS []
noncomputable def Ydh:=uF []
noncomputable def Ydi:=tS [("z",1656)]
noncomputable def Ydj:=tS []
noncomputable def Ydk:=fN (Zb 208) "_law_drawn"
noncomputable def Ydl:=cdO "_law_drawn" "_law_drawn" 1653 713 1 3 643 1657
noncomputable def Ydm:=fF (Zb 208) "_law_drawn" "law_xm0272_01" 1585 648
noncomputable def Ydn:=tS []
noncomputable def Ydo:=uF []
noncomputable def Ydp:=tS [("w",1663),("one",1664),("other",1665),("c",1666),("z",1667),("v",1668),("room",1669)]
noncomputable def Ydq:=tS []
noncomputable def Ydr:=fN (Zb 209) "_law_ends"
noncomputable def Yds:=cdO "_law_ends" "_law_ends" 1660 715 5 3 650 1670
noncomputable def Ydt:=fF (Zb 209) "_law_ends" "law_xm0272_01" 1585 655
noncomputable def Ydu:=tS []
noncomputable def Ydv:=uF []
noncomputable def Ydw:=tS [("w",1676),("one",1677),("other",1678),("c",1679),("z",1680),("v",1681),("i",1682),("before",1683),("cells",1684),("count",1685)]
noncomputable def Ydx:=tS []
noncomputable def Ydy:=fN (Zb 210) "_law_undone"
noncomputable def Ydz:=cdO "_law_undone" "_law_undone" 1673 723 5 3 657 1686
noncomputable def Ye0:=fF (Zb 210) "_law_undone" "law_xm0272_01" 1585 662
noncomputable def Ye1:=tS []
noncomputable def Ye2:=uF []
noncomputable def Ye3:=tS [("w",1692),("one",1693),("other",1694),("c",1695),("z",1696),("i",1697),("v",1698)]
noncomputable def Ye4:=tS []
noncomputable def Ye5:=fN (Zb 211) "_law_replaced"
noncomputable def Ye6:=cdO "_law_replaced" "_law_replaced" 1689 733 5 3 664 1699
noncomputable def Ye7:=fF (Zb 211) "_law_replaced" "law_xm0272_01" 1585 669
noncomputable def Ye8:=tS []
noncomputable def Ye9:=uF []
noncomputable def Yea:=tS [("w",1705),("one",1706),("other",1707),("c",1708),("z",1709),("i",1710),("j",1711),("v",1712)]
noncomputable def Yeb:=tS []
noncomputable def Yec:=fN (Zb 212) "_law_both_in"
noncomputable def Yed:=cdO "_law_both_in" "_law_both_in" 1702 737 5 3 671 1713
noncomputable def Yee:=fF (Zb 212) "_law_both_in" "law_xm0272_01" 1585 676
noncomputable def Yef:=tS []
noncomputable def Yeg:=uF []
noncomputable def Yeh:=tS [("w",1719),("one",1720),("other",1721),("c",1722),("z",1723),("i",1724),("j",1725)]
noncomputable def Yei:=tS []
noncomputable def Yej:=fN (Zb 213) "_law_both_out"
noncomputable def Yek:=cdO "_law_both_out" "_law_both_out" 1716 742 5 3 678 1726
noncomputable def Yel:=fF (Zb 213) "_law_both_out" "law_xm0272_01" 1585 683
noncomputable def Yem:=tS []
noncomputable def Yen:=uF []
noncomputable def Yeo:=fN (Zb 214) "_law_again"
noncomputable def Yep:Obj:=⟨(.type "code"),none,(.fields [(.str "_law_again" 1729),(.str "_law_again" 1730),(.str "/claim/cut.py" 1731),(.int 746 0),(.int 4 0),(.int 0 0),(.int 0 0),(.int 3 0),(.ref 685),(.bool true),(.int 181 0),(.ref 686),.none,.none,.none,(.ref 687),(.int 1732 0),(.int 746 0),(.str "/claim/cut.py" 1733)].toArray),[].toArray⟩
noncomputable def Yeq:=fF (Zb 214) "_law_again" "law_xm0272_01" 1585 688
noncomputable def Yer:=tS []
noncomputable def Yes:=uF []
noncomputable def Yet:=tS [("w",1738),("both",1739),("c",1740),("z",1741),("v",1742),("sort",1743),("one",1744),("good",1745)]
noncomputable def Yeu:=tS []
noncomputable def Yev:=fN (Zb 215) "_law_any"
noncomputable def Yew:=cdO "_law_any" "_law_any" 1735 767 4 3 690 1746
noncomputable def Yex:=fF (Zb 215) "_law_any" "law_xm0272_01" 1585 695
noncomputable def Yey:=tS []
noncomputable def Yez:=uF []
noncomputable def Yf0:=tS [("w",1752),("one",1753),("gave",1754)]
noncomputable def Yf1:=tS []
noncomputable def Yf2:=fN (Zb 216) "_law_walker"
noncomputable def Yf3:=cdO "_law_walker" "_law_walker" 1749 786 2 3 697 1755
noncomputable def Yf4:=fF (Zb 216) "_law_walker" "law_xm0272_01" 1585 702
noncomputable def Yf5:=tS []
noncomputable def Yf6:=uF []
noncomputable def Yf7:=tS [("w",1761),("e",1762),("cells",1763),("k",1764),("c",1765),("want",1766)]
noncomputable def Yf8:=tS []
noncomputable def Yf9:=fN (Zb 217) "_law_moves"
noncomputable def Yfa:=cdO "_law_moves" "_law_moves" 1758 791 5 3 704 1767
noncomputable def Yfb:=fF (Zb 217) "_law_moves" "law_xm0272_01" 1585 709
noncomputable def Yfc:=tS []
noncomputable def Yfd:=uF []
noncomputable def Yfe:=tS [("w",1773),("e",1774),("current",1775)]
noncomputable def Yff:=tS []
noncomputable def Yfg:=fN (Zb 218) "_law_stale"
noncomputable def Yfh:=cdO "_law_stale" "_law_stale" 1770 794 3 3 711 1776
noncomputable def Yfi:=fF (Zb 218) "_law_stale" "law_xm0272_01" 1585 716
noncomputable def Yfj:=tS []
noncomputable def Yfk:=uF []
noncomputable def Yfl:=tS [("w",1782),("one",1783),("other",1784),("c",1785),("z",1786),("cells",1787),("e",1788),("f",1789),("current",1790),("count",1791)]
noncomputable def Yfm:=tS []
noncomputable def Yfn:=fN (Zb 219) "_law_walkers"
noncomputable def Yfo:=cdO "_law_walkers" "_law_walkers" 1779 796 5 3 718 1792
noncomputable def Yfp:=fF (Zb 219) "_law_walkers" "law_xm0272_01" 1585 723
noncomputable def Yfq:=tS []
noncomputable def Yfr:=uF []
noncomputable def Yfs:=tS [("w",1798),("one",1799),("other",1800),("c",1801),("cells",1802),("e",1803),("k",1804)]
noncomputable def Yft:=tS []
noncomputable def Yfu:=fN (Zb 220) "_law_walk"
noncomputable def Yfv:=cdO "_law_walk" "_law_walk" 1795 807 4 3 725 1805
noncomputable def Yfw:=fF (Zb 220) "_law_walk" "law_xm0272_01" 1585 730
noncomputable def Yfx:=tS []
noncomputable def Yfy:=uF []
noncomputable def Yfz:=tS [("w",1811),("one",1812),("c",1813),("z",1814),("thrown",1815),("i",1816),("mid",1817),("args",1818)]
noncomputable def Yg0:=tS []
noncomputable def Yg1:=fN (Zb 221) "_law_refused"
noncomputable def Yg2:=cdO "_law_refused" "_law_refused" 1808 814 4 3 732 1819
noncomputable def Yg3:=fF (Zb 221) "_law_refused" "law_xm0272_01" 1585 737
noncomputable def Yg4:=tS []
noncomputable def Yg5:=uF []
noncomputable def Yg6:=tS [("w",1825),("one",1826),("other",1827),("c",1828),("z",1829),("v",1830),("have",1831),("k",1832)]
noncomputable def Yg7:=tS []
noncomputable def Yg8:=fN (Zb 222) "_law_found"
noncomputable def Yg9:=cdO "_law_found" "_law_found" 1822 823 5 3 739 1833
noncomputable def Yga:=fF (Zb 222) "_law_found" "law_xm0272_01" 1585 744
noncomputable def Ygb:=tS []
noncomputable def Ygc:=uF []
noncomputable def Ygd:=tS [("w",1839),("q",1840),("op",1841),("z",1842),("one",1843),("other",1844),("c",1845)]
noncomputable def Yge:=tS []
noncomputable def Ygf:=fN (Zb 223) "_law_step"
noncomputable def Ygg:=cdO "_law_step" "_law_step" 1836 834 2 3 746 1846
noncomputable def Ygh:=fF (Zb 223) "_law_step" "law_xm0272_01" 1585 751
noncomputable def Ygi:=tS []
noncomputable def Ygj:=uF []
noncomputable def Ygk:=fN (Zb 224) "law"
noncomputable def Ygl:Obj:=⟨(.type "code"),none,(.fields [(.str "law" 1849),(.str "law" 1850),(.str "/claim/cut.py" 1851),(.int 862 0),(.int 1 0),(.int 0 0),(.int 0 0),(.int 3 0),(.ref 753),(.bool true),(.int 181 0),(.ref 754),.none,.none,.none,(.ref 755),(.int 1852 0),(.int 862 0),(.str "/claim/cut.py" 1853)].toArray),[].toArray⟩
noncomputable def Ygm:=fF (Zb 224) "law" "law_xm0272_01" 1585 756
noncomputable def Yij (P:Params):Obj:=⟨.type "dict",none,.dict ((E P "__name__" 165 (.str "__main__" 164))::(Xb P).take 8).toArray 9,[].toArray⟩
noncomputable def Ztf:Obj:=⟨.none,none,.fields (tab12.take 0).toArray,[].toArray⟩
noncomputable def T0 (P:Params):BT:=(N (boot_o_0 P) (N (boot_o_1 P) (N (Yij P) (lf (boot_o_7 P)) (lf o11)) (N (boot_o_5 P) (lf (boot_o_9 P)) (lf o13))) (N (boot_o_2 P) (N (boot_o_4 P) (lf (boot_o_8 P)) (lf Ztf)) (N (boot_o_6 P) (lf (boot_o_10 P)) (lf o14))))
noncomputable def Ztv (P:Params):Obj:=⟨.type "dict",none,.dict ((E P "__name__" 165 (.str "framerune.kinds" 300))::(Xb P).take 71).toArray 72,[].toArray⟩
noncomputable def Zh7:Obj:=⟨.none,none,.fields (tab12.take 6).toArray,[].toArray⟩
noncomputable def T65 (P:Params):BT:=(N (boot_o_0 P) (N (boot_o_1 P) (N (Ztv P) (N (boot_o_7 P) (N o15 (lf o31) L) (N o23 (lf o39) L)) (N o11 (N o19 (lf o35) L) (N o27 (lf (o43 P)) L))) (N (boot_o_5 P) (N (boot_o_9 P) (N (o17 P) (lf o33) L) (N o25 (lf o41) L)) (N o13 (N o21 (lf (o37 P)) L) (N o29 (lf o45) L)))) (N (o2 P) (N (boot_o_4 P) (N (boot_o_8 P) (N o16 (lf o32) L) (N o24 (lf o40) L)) (N Zh7 (N o20 (lf o36) L) (N o28 (lf o44) L))) (N (boot_o_6 P) (N (boot_o_10 P) (N o18 (lf o34) L) (N o26 (lf o42) L)) (N o14 (N o22 (lf o38) L) (N (o30 P) (lf o46) L)))))
noncomputable def Ztw (P:Params):Obj:=⟨.type "dict",none,.dict ((E P "__name__" 165 (.str "framerune.kinds" 300))::(Xb P).take 72).toArray 73,[].toArray⟩
noncomputable def Zh8:Obj:=⟨.none,none,.fields (tab12.take 6).toArray,[].toArray⟩
noncomputable def T66 (P:Params):BT:=(N (boot_o_0 P) (N (boot_o_1 P) (N (Ztw P) (N (boot_o_7 P) (N o15 (lf o31) (lf o47)) (N o23 (lf o39) L)) (N o11 (N o19 (lf o35) L) (N o27 (lf (o43 P)) L))) (N (boot_o_5 P) (N (boot_o_9 P) (N (o17 P) (lf o33) L) (N o25 (lf o41) L)) (N o13 (N o21 (lf (o37 P)) L) (N o29 (lf o45) L)))) (N (o2 P) (N (boot_o_4 P) (N (boot_o_8 P) (N o16 (lf o32) L) (N o24 (lf o40) L)) (N Zh8 (N o20 (lf o36) L) (N o28 (lf o44) L))) (N (boot_o_6 P) (N (boot_o_10 P) (N o18 (lf o34) L) (N o26 (lf o42) L)) (N o14 (N o22 (lf o38) L) (N (o30 P) (lf o46) L)))))
noncomputable def Zmp (P:Params):Obj:=⟨.type "dict",none,.dict ((E P "__name__" 165 (.str "framerune.store" 617))::(Xb P).take 117).toArray 118,[].toArray⟩
noncomputable def B2:Obj:=⟨.none,none,.fields (tab12.take 51).toArray,[].toArray⟩
noncomputable def Zra (P:Params):BT:=(N (boot_o_0 P) (N (boot_o_1 P) (N (Zmp P) (N (boot_o_7 P) (N o15 (N o31 (N o63 (lf Zbw) L) (N o95 (lf Zcs) L)) (N o47 (N o79 (lf Zcc) L) (N Zbg (lf Zd8) L))) (N o23 (N o39 (N o71 (lf Zc4) L) (N Zb8 (lf Zd0) L)) (N o55 (N o87 (lf Zck) L) (lf Zbo)))) (N o11 (N o19 (N o35 (N o67 (lf Zc0) L) (N o99 (lf Zcw) L)) (N o51 (N o83 (lf Zcg) L) (N Zbk (lf Zdc) L))) (N o27 (N (o43 P) (N o75 (lf Zc8) L) (N Zbc (lf Zd4) L)) (N o59 (N o91 (lf Zco) L) (lf Zbs))))) (N (boot_o_5 P) (N (boot_o_9 P) (N (o17 P) (N o33 (N o65 (lf Zby) L) (N o97 (lf Zcu) L)) (N o49 (N o81 (lf Zce) L) (N Zbi (lf Zda) L))) (N o25 (N o41 (N o73 (lf Zc6) L) (N Zba (lf Zd2) L)) (N o57 (N o89 (lf Zcm) L) (lf Zbq)))) (N o13 (N o21 (N (o37 P) (N o69 (lf Zc2) L) (N Zb6 (lf Zcy) L)) (N o53 (N o85 (lf Zci) L) (lf Zbm))) (N o29 (N o45 (N (o77 P) (lf Zca) L) (N Zbe (lf Zd6) L)) (N o61 (N o93 (lf Zcq) L) (lf Zbu)))))) (N (o2 P) (N (boot_o_4 P) (N (boot_o_8 P) (N o16 (N o32 (N o64 (lf Zbx) L) (N o96 (lf Zct) L)) (N o48 (N o80 (lf Zcd) L) (N Zbh (lf Zd9) L))) (N o24 (N o40 (N o72 (lf Zc5) L) (N Zb9 (lf Zd1) L)) (N o56 (N o88 (lf Zcl) L) (lf Zbp)))) (N B2 (N o20 (N o36 (N o68 (lf Zc1) L) (N Zb5 (lf Zcx) L)) (N o52 (N o84 (lf Zch) L) (N Zbl (lf Zdd) L))) (N o28 (N o44 (N o76 (lf Zc9) L) (N Zbd (lf Zd5) L)) (N o60 (N o92 (lf Zcp) L) (lf Zbt))))) (N (boot_o_6 P) (N (boot_o_10 P) (N o18 (N o34 (N o66 (lf Zbz) L) (N o98 (lf Zcv) L)) (N (o50 P) (N o82 (lf Zcf) L) (N Zbj (lf Zdb) L))) (N o26 (N o42 (N o74 (lf Zc7) L) (N Zbb (lf Zd3) L)) (N o58 (N o90 (lf Zcn) L) (lf Zbr)))) (N o14 (N o22 (N o38 (N o70 (lf Zc3) L) (N Zb7 (lf Zcz) L)) (N o54 (N o86 (lf Zcj) L) (lf Zbn))) (N (o30 P) (N o46 (N o78 (lf Zcb) L) (N Zbf (lf Zd7) L)) (N o62 (N o94 (lf Zcr) L) (lf Zbv)))))))
noncomputable def Zmq (P:Params):Obj:=⟨.type "dict",none,.dict ((E P "__name__" 165 (.str "framerune.ops" 1007))::(Xb P).take 163).toArray 164,[].toArray⟩
noncomputable def B3:Obj:=⟨.none,none,.fields (tab12.take 105).toArray,[].toArray⟩
noncomputable def Zat (P:Params):BT:=(N (boot_o_0 P) (N (boot_o_1 P) (N (Zmq P) (N (boot_o_7 P) (N o15 (N o31 (N o63 (N Zbw (lf Zjb) L) (N Zhj (lf Zl3) L)) (N o95 (N Zcs (lf Zk7) L) (N Zif (lf Zlz) L))) (N o47 (N o79 (N Zcc (lf Zjr) L) (N Zhz (lf Zlj) L)) (N Zbg (N Zd8 (lf Zkn) L) (N Ziv (lf Zmf) L)))) (N o23 (N o39 (N o71 (N Zc4 (lf Zjj) L) (N Zhr (lf Zlb) L)) (N Zb8 (N Zd0 (lf Zkf) L) (N Zin (lf Zm7) L))) (N o55 (N o87 (N Zck (lf Zjz) L) (N Zi7 (lf Zlr) L)) (N Zbo (N (Zhb P) (lf Zkv) L) (N Zj3 (lf Zmn) L))))) (N o11 (N o19 (N o35 (N o67 (N Zc0 (lf (Zjf P)) L) (N Zhn (lf Zl7) L)) (N o99 (N Zcw (lf Zkb) L) (N Zij (lf Zm3) L))) (N o51 (N o83 (N Zcg (lf Zjv) L) (N Zi3 (lf Zln) L)) (N Zbk (N Zdc (lf Zkr) L) (N Ziz (lf Zmj) L)))) (N o27 (N (o43 P) (N o75 (N Zc8 (lf (Zjn P)) L) (N Zhv (lf Zlf) L)) (N Zbc (N Zd4 (lf Zkj) L) (N Zir (lf Zmb) L))) (N o59 (N o91 (N Zco (lf Zk3) L) (N Zib (lf Zlv) L)) (N Zbs (N Zhf (lf Zkz) L) (lf Zj7)))))) (N (boot_o_5 P) (N (boot_o_9 P) (N (o17 P) (N o33 (N o65 (N Zby (lf Zjd) L) (N Zhl (lf Zl5) L)) (N o97 (N Zcu (lf Zk9) L) (N (Zih P) (lf Zm1) L))) (N o49 (N o81 (N Zce (lf Zjt) L) (N Zi1 (lf Zll) L)) (N Zbi (N Zda (lf Zkp) L) (N Zix (lf Zmh) L)))) (N o25 (N o41 (N o73 (N Zc6 (lf Zjl) L) (N Zht (lf Zld) L)) (N Zba (N Zd2 (lf Zkh) L) (N Zip (lf Zm9) L))) (N o57 (N o89 (N Zcm (lf Zk1) L) (N (Zi9 P) (lf Zlt) L)) (N Zbq (N Zhd (lf Zkx) L) (lf Zj5))))) (N o13 (N o21 (N (o37 P) (N o69 (N Zc2 (lf Zjh) L) (N Zhp (lf Zl9) L)) (N Zb6 (N Zcy (lf Zkd) L) (N Zil (lf Zm5) L))) (N o53 (N o85 (N Zci (lf Zjx) L) (N Zi5 (lf Zlp) L)) (N Zbm (N Zh9 (lf Zkt) L) (N Zj1 (lf Zml) L)))) (N o29 (N o45 (N (o77 P) (N Zca (lf Zjp) L) (N Zhx (lf Zlh) L)) (N Zbe (N Zd6 (lf Zkl) L) (N Zit (lf Zmd) L))) (N o61 (N o93 (N Zcq (lf Zk5) L) (N Zid (lf Zlx) L)) (N Zbu (N Zhh (lf Zl1) L) (lf Zj9))))))) (N (o2 P) (N (boot_o_4 P) (N (boot_o_8 P) (N o16 (N o32 (N o64 (N Zbx (lf Zjc) L) (N Zhk (lf Zl4) L)) (N o96 (N Zct (lf Zk8) L) (N Zig (lf Zm0) L))) (N o48 (N o80 (N Zcd (lf Zjs) L) (N Zi0 (lf Zlk) L)) (N Zbh (N Zd9 (lf Zko) L) (N Ziw (lf Zmg) L)))) (N o24 (N o40 (N o72 (N Zc5 (lf Zjk) L) (N Zhs (lf Zlc) L)) (N Zb9 (N Zd1 (lf Zkg) L) (N Zio (lf Zm8) L))) (N o56 (N o88 (N Zcl (lf (Zk0 P)) L) (N Zi8 (lf Zls) L)) (N Zbp (N Zhc (lf Zkw) L) (N Zj4 (lf Zmo) L))))) (N B3 (N o20 (N o36 (N o68 (N Zc1 (lf Zjg) L) (N (Zho P) (lf Zl8) L)) (N Zb5 (N Zcx (lf Zkc) L) (N Zik (lf Zm4) L))) (N o52 (N o84 (N Zch (lf Zjw) L) (N Zi4 (lf Zlo) L)) (N Zbl (N Zdd (lf Zks) L) (N Zj0 (lf Zmk) L)))) (N o28 (N o44 (N o76 (N Zc9 (lf Zjo) L) (N (Zhw P) (lf Zlg) L)) (N Zbd (N Zd5 (lf Zkk) L) (N Zis (lf Zmc) L))) (N o60 (N o92 (N Zcp (lf Zk4) L) (N Zic (lf Zlw) L)) (N Zbt (N Zhg (lf Zl0) L) (lf Zj8)))))) (N (boot_o_6 P) (N (boot_o_10 P) (N o18 (N o34 (N o66 (N Zbz (lf Zje) L) (N Zhm (lf Zl6) L)) (N o98 (N Zcv (lf Zka) L) (N Zii (lf Zm2) L))) (N (o50 P) (N o82 (N Zcf (lf Zju) L) (N Zi2 (lf Zlm) L)) (N Zbj (N Zdb (lf Zkq) L) (N Ziy (lf Zmi) L)))) (N o26 (N o42 (N o74 (N Zc7 (lf Zjm) L) (N Zhu (lf Zle) L)) (N Zbb (N Zd3 (lf Zki) L) (N Ziq (lf Zma) L))) (N o58 (N o90 (N Zcn (lf Zk2) L) (N Zia (lf Zlu) L)) (N Zbr (N Zhe (lf Zky) L) (lf Zj6))))) (N o14 (N o22 (N o38 (N o70 (N Zc3 (lf Zji) L) (N Zhq (lf Zla) L)) (N Zb7 (N Zcz (lf Zke) L) (N Zim (lf Zm6) L))) (N o54 (N o86 (N Zcj (lf Zjy) L) (N Zi6 (lf Zlq) L)) (N Zbn (N Zha (lf Zku) L) (N (Zj2 P) (lf Zmm) L)))) (N (o30 P) (N o46 (N o78 (N Zcb (lf Zjq) L) (N Zhy (lf Zli) L)) (N Zbf (N Zd7 (lf Zkm) L) (N (Ziu P) (lf Zme) L))) (N o62 (N o94 (N Zcr (lf Zk6) L) (N Zie (lf Zly) L)) (N Zbv (N Zhi (lf Zl2) L) (lf Zja))))))))
noncomputable def Zmr (P:Params):Obj:=⟨.type "dict",none,.dict ((E P "__name__" 165 (.str "framerune.ops" 1007))::(Xb P).take 164).toArray 165,[].toArray⟩
noncomputable def B4:Obj:=⟨.none,none,.fields (tab12.take 105).toArray,[].toArray⟩
noncomputable def Zau (P:Params):BT:=(N (boot_o_0 P) (N (boot_o_1 P) (N (Zmr P) (N (boot_o_7 P) (N o15 (N o31 (N o63 (N Zbw (lf Zjb) (lf Zqv)) (N Zhj (lf Zl3) L)) (N o95 (N Zcs (lf Zk7) L) (N Zif (lf Zlz) L))) (N o47 (N o79 (N Zcc (lf Zjr) L) (N Zhz (lf Zlj) L)) (N Zbg (N Zd8 (lf Zkn) L) (N Ziv (lf Zmf) L)))) (N o23 (N o39 (N o71 (N Zc4 (lf Zjj) L) (N Zhr (lf Zlb) L)) (N Zb8 (N Zd0 (lf Zkf) L) (N Zin (lf Zm7) L))) (N o55 (N o87 (N Zck (lf Zjz) L) (N Zi7 (lf Zlr) L)) (N Zbo (N (Zhb P) (lf Zkv) L) (N Zj3 (lf Zmn) L))))) (N o11 (N o19 (N o35 (N o67 (N Zc0 (lf (Zjf P)) L) (N Zhn (lf Zl7) L)) (N o99 (N Zcw (lf Zkb) L) (N Zij (lf Zm3) L))) (N o51 (N o83 (N Zcg (lf Zjv) L) (N Zi3 (lf Zln) L)) (N Zbk (N Zdc (lf Zkr) L) (N Ziz (lf Zmj) L)))) (N o27 (N (o43 P) (N o75 (N Zc8 (lf (Zjn P)) L) (N Zhv (lf Zlf) L)) (N Zbc (N Zd4 (lf Zkj) L) (N Zir (lf Zmb) L))) (N o59 (N o91 (N Zco (lf Zk3) L) (N Zib (lf Zlv) L)) (N Zbs (N Zhf (lf Zkz) L) (N Zj7 (lf Zqr) L)))))) (N (boot_o_5 P) (N (boot_o_9 P) (N (o17 P) (N o33 (N o65 (N Zby (lf Zjd) L) (N Zhl (lf Zl5) L)) (N o97 (N Zcu (lf Zk9) L) (N (Zih P) (lf Zm1) L))) (N o49 (N o81 (N Zce (lf Zjt) L) (N Zi1 (lf Zll) L)) (N Zbi (N Zda (lf Zkp) L) (N Zix (lf Zmh) L)))) (N o25 (N o41 (N o73 (N Zc6 (lf Zjl) L) (N Zht (lf Zld) L)) (N Zba (N Zd2 (lf Zkh) L) (N Zip (lf Zm9) L))) (N o57 (N o89 (N Zcm (lf Zk1) L) (N (Zi9 P) (lf Zlt) L)) (N Zbq (N Zhd (lf Zkx) L) (N Zj5 (lf Zqp) L))))) (N o13 (N o21 (N (o37 P) (N o69 (N Zc2 (lf Zjh) L) (N Zhp (lf Zl9) L)) (N Zb6 (N Zcy (lf Zkd) L) (N Zil (lf Zm5) L))) (N o53 (N o85 (N Zci (lf Zjx) L) (N Zi5 (lf Zlp) L)) (N Zbm (N Zh9 (lf Zkt) L) (N Zj1 (lf Zml) L)))) (N o29 (N o45 (N (o77 P) (N Zca (lf Zjp) L) (N Zhx (lf Zlh) L)) (N Zbe (N Zd6 (lf Zkl) L) (N Zit (lf Zmd) L))) (N o61 (N o93 (N Zcq (lf Zk5) L) (N Zid (lf Zlx) L)) (N Zbu (N Zhh (lf Zl1) L) (N Zj9 (lf Zqt) L))))))) (N (o2 P) (N (boot_o_4 P) (N (boot_o_8 P) (N o16 (N o32 (N o64 (N Zbx (lf Zjc) (lf Zqw)) (N Zhk (lf Zl4) L)) (N o96 (N Zct (lf Zk8) L) (N Zig (lf Zm0) L))) (N o48 (N o80 (N Zcd (lf Zjs) L) (N Zi0 (lf Zlk) L)) (N Zbh (N Zd9 (lf Zko) L) (N Ziw (lf Zmg) L)))) (N o24 (N o40 (N o72 (N Zc5 (lf Zjk) L) (N Zhs (lf Zlc) L)) (N Zb9 (N Zd1 (lf Zkg) L) (N Zio (lf Zm8) L))) (N o56 (N o88 (N Zcl (lf (Zk0 P)) L) (N Zi8 (lf Zls) L)) (N Zbp (N Zhc (lf Zkw) L) (N Zj4 (lf Zmo) L))))) (N B4 (N o20 (N o36 (N o68 (N Zc1 (lf Zjg) L) (N (Zho P) (lf Zl8) L)) (N Zb5 (N Zcx (lf Zkc) L) (N Zik (lf Zm4) L))) (N o52 (N o84 (N Zch (lf Zjw) L) (N Zi4 (lf Zlo) L)) (N Zbl (N Zdd (lf Zks) L) (N Zj0 (lf Zmk) L)))) (N o28 (N o44 (N o76 (N Zc9 (lf Zjo) L) (N (Zhw P) (lf Zlg) L)) (N Zbd (N Zd5 (lf Zkk) L) (N Zis (lf Zmc) L))) (N o60 (N o92 (N Zcp (lf Zk4) L) (N Zic (lf Zlw) L)) (N Zbt (N Zhg (lf Zl0) L) (N Zj8 (lf Zqs) L)))))) (N (boot_o_6 P) (N (boot_o_10 P) (N o18 (N o34 (N o66 (N Zbz (lf Zje) L) (N Zhm (lf Zl6) L)) (N o98 (N Zcv (lf Zka) L) (N Zii (lf Zm2) L))) (N (o50 P) (N o82 (N Zcf (lf Zju) L) (N Zi2 (lf Zlm) L)) (N Zbj (N Zdb (lf Zkq) L) (N Ziy (lf Zmi) L)))) (N o26 (N o42 (N o74 (N Zc7 (lf Zjm) L) (N Zhu (lf Zle) L)) (N Zbb (N Zd3 (lf Zki) L) (N Ziq (lf Zma) L))) (N o58 (N o90 (N Zcn (lf Zk2) L) (N Zia (lf Zlu) L)) (N Zbr (N Zhe (lf Zky) L) (N Zj6 (lf Zqq) L))))) (N o14 (N o22 (N o38 (N o70 (N Zc3 (lf Zji) L) (N Zhq (lf Zla) L)) (N Zb7 (N Zcz (lf Zke) L) (N Zim (lf Zm6) L))) (N o54 (N o86 (N Zcj (lf Zjy) L) (N Zi6 (lf Zlq) L)) (N Zbn (N Zha (lf Zku) L) (N (Zj2 P) (lf Zmm) L)))) (N (o30 P) (N o46 (N o78 (N Zcb (lf Zjq) L) (N Zhy (lf Zli) L)) (N Zbf (N Zd7 (lf Zkm) L) (N (Ziu P) (lf Zme) L))) (N o62 (N o94 (N Zcr (lf Zk6) L) (N Zie (lf Zly) L)) (N Zbv (N Zhi (lf Zl2) L) (N Zja (lf Zqu) L))))))))
noncomputable def Zms (P:Params):Obj:=⟨.type "dict",none,.dict ((E P "__name__" 165 (.str "framerune.corecoll" 1356))::(Xb P).take 194).toArray 195,[].toArray⟩
noncomputable def B5:Obj:=⟨.none,none,.fields (tab12.take 174).toArray,[].toArray⟩
noncomputable def Zrb (P:Params):BT:=(N (boot_o_0 P) (N (boot_o_1 P) (N (Zms P) (N (boot_o_7 P) (N o15 (N o31 (N o63 (N Zbw (N Zjb (lf Zx0) L) (lf Zqv)) (N Zhj (lf Zl3) (lf Zv8))) (N o95 (N Zcs (N Zk7 (lf Zxw) L) (lf Zuc)) (N Zif (lf Zlz) (lf Zw4)))) (N o47 (N o79 (N Zcc (N Zjr (lf Zxg) L) (lf Ztu)) (N Zhz (lf Zlj) (lf Zvo))) (N Zbg (N Zd8 (lf Zkn) (lf Zus)) (N Ziv (lf Zmf) (lf Zwk))))) (N o23 (N o39 (N o71 (N Zc4 (N Zjj (lf Zx8) L) (lf Ztm)) (N Zhr (lf Zlb) (lf Zvg))) (N Zb8 (N Zd0 (lf Zkf) (lf Zuk)) (N Zin (lf Zm7) (lf Zwc)))) (N o55 (N o87 (N Zck (N Zjz (lf Zxo) L) (lf Zu4)) (N Zi7 (lf Zlr) (lf Zvw))) (N Zbo (N (Zhb P) (lf Zkv) (lf Zv0)) (N Zj3 (lf Zmn) (lf Zws)))))) (N o11 (N o19 (N o35 (N o67 (N Zc0 (N (Zjf P) (lf Zx4) L) (lf Zti)) (N Zhn (lf Zl7) (lf Zvc))) (N o99 (N Zcw (lf Zkb) (lf Zug)) (N Zij (lf Zm3) (lf Zw8)))) (N o51 (N o83 (N Zcg (N Zjv (lf Zxk) L) (lf Zu0)) (N Zi3 (lf Zln) (lf Zvs))) (N Zbk (N Zdc (lf Zkr) (lf Zuw)) (N Ziz (lf Zmj) (lf Zwo))))) (N o27 (N (o43 P) (N o75 (N Zc8 (N (Zjn P) (lf Zxc) L) (lf Ztq)) (N Zhv (lf Zlf) (lf Zvk))) (N Zbc (N Zd4 (lf Zkj) (lf Zuo)) (N Zir (lf Zmb) (lf Zwg)))) (N o59 (N o91 (N Zco (N Zk3 (lf Zxs) L) (lf Zu8)) (N Zib (lf Zlv) (lf Zw0))) (N Zbs (N Zhf (lf Zkz) (lf Zv4)) (N Zj7 (lf Zqr) (lf Zww))))))) (N (boot_o_5 P) (N (boot_o_9 P) (N (o17 P) (N o33 (N o65 (N Zby (N Zjd (lf Zx2) L) (lf Ztg)) (N Zhl (lf Zl5) (lf Zva))) (N o97 (N Zcu (N Zk9 (lf Zxy) L) (lf Zue)) (N (Zih P) (lf Zm1) (lf Zw6)))) (N o49 (N o81 (N Zce (N Zjt (lf Zxi) L) (lf Zty)) (N Zi1 (lf Zll) (lf Zvq))) (N Zbi (N Zda (lf Zkp) (lf Zuu)) (N Zix (lf Zmh) (lf Zwm))))) (N o25 (N o41 (N o73 (N Zc6 (N Zjl (lf Zxa) L) (lf Zto)) (N Zht (lf Zld) (lf Zvi))) (N Zba (N Zd2 (lf Zkh) (lf Zum)) (N Zip (lf Zm9) (lf Zwe)))) (N o57 (N o89 (N Zcm (N Zk1 (lf Zxq) L) (lf Zu6)) (N (Zi9 P) (lf Zlt) (lf Zvy))) (N Zbq (N Zhd (lf Zkx) (lf Zv2)) (N Zj5 (lf Zqp) (lf Zwu)))))) (N o13 (N o21 (N (o37 P) (N o69 (N Zc2 (N Zjh (lf Zx6) L) (lf Ztk)) (N Zhp (lf Zl9) (lf Zve))) (N Zb6 (N Zcy (lf Zkd) (lf Zui)) (N Zil (lf Zm5) (lf Zwa)))) (N o53 (N o85 (N Zci (N Zjx (lf Zxm) L) (lf Zu2)) (N Zi5 (lf Zlp) (lf Zvu))) (N Zbm (N Zh9 (lf Zkt) (lf Zuy)) (N Zj1 (lf Zml) (lf Zwq))))) (N o29 (N o45 (N (o77 P) (N Zca (N Zjp (lf Zxe) L) (lf Zts)) (N Zhx (lf Zlh) (lf Zvm))) (N Zbe (N Zd6 (lf Zkl) (lf Zuq)) (N Zit (lf Zmd) (lf Zwi)))) (N o61 (N o93 (N Zcq (N Zk5 (lf Zxu) L) (lf Zua)) (N Zid (lf Zlx) (lf Zw2))) (N Zbu (N Zhh (lf Zl1) (lf Zv6)) (N Zj9 (lf Zqt) (lf Zwy)))))))) (N (o2 P) (N (boot_o_4 P) (N (boot_o_8 P) (N o16 (N o32 (N o64 (N Zbx (N Zjc (lf Zx1) L) (lf Zqw)) (N Zhk (lf Zl4) (lf Zv9))) (N o96 (N Zct (N Zk8 (lf Zxx) L) (lf Zud)) (N Zig (lf Zm0) (lf Zw5)))) (N o48 (N o80 (N Zcd (N Zjs (lf Zxh) L) (lf Ztx)) (N Zi0 (lf Zlk) (lf Zvp))) (N Zbh (N Zd9 (lf Zko) (lf Zut)) (N Ziw (lf Zmg) (lf Zwl))))) (N o24 (N o40 (N o72 (N Zc5 (N Zjk (lf Zx9) L) (lf Ztn)) (N Zhs (lf Zlc) (lf Zvh))) (N Zb9 (N Zd1 (lf Zkg) (lf Zul)) (N Zio (lf Zm8) (lf Zwd)))) (N o56 (N o88 (N Zcl (N (Zk0 P) (lf Zxp) L) (lf Zu5)) (N Zi8 (lf Zls) (lf Zvx))) (N Zbp (N Zhc (lf Zkw) (lf Zv1)) (N Zj4 (lf Zmo) (lf Zwt)))))) (N B5 (N o20 (N o36 (N o68 (N Zc1 (N Zjg (lf Zx5) L) (lf Ztj)) (N (Zho P) (lf Zl8) (lf Zvd))) (N Zb5 (N Zcx (lf Zkc) (lf Zuh)) (N Zik (lf Zm4) (lf Zw9)))) (N o52 (N o84 (N Zch (N Zjw (lf Zxl) L) (lf Zu1)) (N Zi4 (lf Zlo) (lf Zvt))) (N Zbl (N Zdd (lf Zks) (lf Zux)) (N Zj0 (lf Zmk) (lf Zwp))))) (N o28 (N o44 (N o76 (N Zc9 (N Zjo (lf Zxd) L) (lf Ztr)) (N (Zhw P) (lf Zlg) (lf Zvl))) (N Zbd (N Zd5 (lf Zkk) (lf Zup)) (N Zis (lf Zmc) (lf Zwh)))) (N o60 (N o92 (N Zcp (N Zk4 (lf Zxt) L) (lf Zu9)) (N Zic (lf Zlw) (lf Zw1))) (N Zbt (N Zhg (lf Zl0) (lf Zv5)) (N Zj8 (lf Zqs) (lf Zwx))))))) (N (boot_o_6 P) (N (boot_o_10 P) (N o18 (N o34 (N o66 (N Zbz (N Zje (lf Zx3) L) (lf Zth)) (N Zhm (lf Zl6) (lf Zvb))) (N o98 (N Zcv (lf Zka) (lf Zuf)) (N Zii (lf Zm2) (lf Zw7)))) (N (o50 P) (N o82 (N Zcf (N Zju (lf Zxj) L) (lf Ztz)) (N Zi2 (lf Zlm) (lf Zvr))) (N Zbj (N Zdb (lf Zkq) (lf Zuv)) (N Ziy (lf Zmi) (lf Zwn))))) (N o26 (N o42 (N o74 (N Zc7 (N Zjm (lf Zxb) L) (lf Ztp)) (N Zhu (lf Zle) (lf Zvj))) (N Zbb (N Zd3 (lf Zki) (lf Zun)) (N Ziq (lf Zma) (lf Zwf)))) (N o58 (N o90 (N Zcn (N Zk2 (lf Zxr) L) (lf Zu7)) (N Zia (lf Zlu) (lf Zvz))) (N Zbr (N Zhe (lf Zky) (lf Zv3)) (N Zj6 (lf Zqq) (lf Zwv)))))) (N o14 (N o22 (N o38 (N o70 (N Zc3 (N Zji (lf Zx7) L) (lf Ztl)) (N Zhq (lf Zla) (lf Zvf))) (N Zb7 (N Zcz (lf Zke) (lf Zuj)) (N Zim (lf Zm6) (lf Zwb)))) (N o54 (N o86 (N Zcj (N Zjy (lf Zxn) L) (lf Zu3)) (N Zi6 (lf Zlq) (lf Zvv))) (N Zbn (N Zha (lf Zku) (lf Zuz)) (N (Zj2 P) (lf Zmm) (lf Zwr))))) (N (o30 P) (N o46 (N o78 (N Zcb (N Zjq (lf Zxf) L) (lf Ztt)) (N Zhy (lf Zli) (lf Zvn))) (N Zbf (N Zd7 (lf Zkm) (lf Zur)) (N (Ziu P) (lf Zme) (lf Zwj)))) (N o62 (N o94 (N Zcr (N Zk6 (lf Zxv) L) (lf Zub)) (N Zie (lf Zly) (lf Zw3))) (N Zbv (N Zhi (lf Zl2) (lf Zv7)) (N Zja (lf Zqu) (lf Zwz)))))))))
noncomputable def Eb (P:Params):Obj:=⟨.type "dict",none,.dict ((E P "__name__" 165 (.str "law_xm0272_01" 1585))::(Xb P).take 226).toArray 227,[].toArray⟩
noncomputable def Jn:Obj:=⟨.none,none,.fields (tab12.take 270).toArray,[].toArray⟩
noncomputable def Mb (P:Params):BT:=(N (boot_o_0 P) (N (boot_o_1 P) (N (Eb P) (N (boot_o_7 P) (N o15 (N o31 (N o63 (N Zbw (N Zjb (lf Zx0) L) (N Zqv (lf Ydc) L)) (N Zhj (N Zl3 (lf Ybk) L) (N Zv8 (lf Yf4) L))) (N o95 (N Zcs (N Zk7 (lf Zxw) L) (N Zuc (lf Ye8) L)) (N Zif (N Zlz (lf Ycg) L) (N Zw4 (lf Yg0) L)))) (N o47 (N o79 (N Zcc (N Zjr (lf Zxg) L) (N Ztu (lf Yds) L)) (N Zhz (N Zlj (lf Yc0) L) (N Zvo (lf Yfk) L))) (N Zbg (N Zd8 (N Zkn (lf Yb4) L) (N Zus (lf Yeo) L)) (N Ziv (N Zmf (lf Ycw) L) (N Zwk (lf Ygg) L))))) (N o23 (N o39 (N o71 (N Zc4 (N Zjj (lf Zx8) L) (N Ztm (lf Ydk) L)) (N Zhr (N Zlb (lf Ybs) L) (N Zvg (lf Yfc) L))) (N Zb8 (N Zd0 (N Zkf (lf Yaw) L) (N Zuk (lf Yeg) L)) (N Zin (N Zm7 (lf Yco) L) (N Zwc (lf Yg8) L)))) (N o55 (N o87 (N Zck (N Zjz (lf Zxo) L) (N Zu4 (lf Ye0) L)) (N Zi7 (N Zlr (lf Yc8) L) (N Zvw (lf Yfs) L))) (N Zbo (N (Zhb P) (N Zkv (lf Ybc) L) (N Zv0 (lf Yew) L)) (N Zj3 (N Zmn (lf Yd4) L) (lf Zws)))))) (N o11 (N o19 (N o35 (N o67 (N Zc0 (N (Zjf P) (lf Zx4) L) (N Zti (lf Ydg) L)) (N Zhn (N Zl7 (lf Ybo) L) (N Zvc (lf Yf8) L))) (N o99 (N Zcw (N Zkb (lf Yas) L) (N Zug (lf Yec) L)) (N Zij (N Zm3 (lf Yck) L) (N Zw8 (lf Yg4) L)))) (N o51 (N o83 (N Zcg (N Zjv (lf Zxk) L) (N Zu0 (lf Ydw) L)) (N Zi3 (N Zln (lf Yc4) L) (N Zvs (lf Yfo) L))) (N Zbk (N Zdc (N Zkr (lf Yb8) L) (N Zuw (lf Yes) L)) (N Ziz (N Zmj (lf Yd0) L) (N Zwo (lf Ygk) L))))) (N o27 (N (o43 P) (N o75 (N Zc8 (N (Zjn P) (lf Zxc) L) (N Ztq (lf Ydo) L)) (N Zhv (N Zlf (lf Ybw) L) (N Zvk (lf Yfg) L))) (N Zbc (N Zd4 (N Zkj (lf Yb0) L) (N Zuo (lf Yek) L)) (N Zir (N Zmb (lf Ycs) L) (N Zwg (lf Ygc) L)))) (N o59 (N o91 (N Zco (N Zk3 (lf Zxs) L) (N Zu8 (lf Ye4) L)) (N Zib (N Zlv (lf Ycc) L) (N Zw0 (lf Yfw) L))) (N Zbs (N Zhf (N Zkz (lf Ybg) L) (N Zv4 (lf Yf0) L)) (N Zj7 (N Zqr (lf Yd8) L) (lf Zww))))))) (N (boot_o_5 P) (N (boot_o_9 P) (N (o17 P) (N o33 (N o65 (N Zby (N Zjd (lf Zx2) L) (N Ztg (lf Yde) L)) (N Zhl (N Zl5 (lf Ybm) L) (N Zva (lf Yf6) L))) (N o97 (N Zcu (N Zk9 (lf Zxy) L) (N Zue (lf Yea) L)) (N (Zih P) (N Zm1 (lf Yci) L) (N Zw6 (lf Yg2) L)))) (N o49 (N o81 (N Zce (N Zjt (lf Zxi) L) (N Zty (lf Ydu) L)) (N Zi1 (N Zll (lf Yc2) L) (N Zvq (lf Yfm) L))) (N Zbi (N Zda (N Zkp (lf Yb6) L) (N Zuu (lf Yeq) L)) (N Zix (N Zmh (lf Ycy) L) (N Zwm (lf Ygi) L))))) (N o25 (N o41 (N o73 (N Zc6 (N Zjl (lf Zxa) L) (N Zto (lf Ydm) L)) (N Zht (N Zld (lf Ybu) L) (N Zvi (lf Yfe) L))) (N Zba (N Zd2 (N Zkh (lf Yay) L) (N Zum (lf Yei) L)) (N Zip (N Zm9 (lf Ycq) L) (N Zwe (lf Yga) L)))) (N o57 (N o89 (N Zcm (N Zk1 (lf Zxq) L) (N Zu6 (lf Ye2) L)) (N (Zi9 P) (N Zlt (lf Yca) L) (N Zvy (lf Yfu) L))) (N Zbq (N Zhd (N Zkx (lf Ybe) L) (N Zv2 (lf Yey) L)) (N Zj5 (N Zqp (lf Yd6) L) (lf Zwu)))))) (N o13 (N o21 (N (o37 P) (N o69 (N Zc2 (N Zjh (lf Zx6) L) (N Ztk (lf Ydi) L)) (N Zhp (N Zl9 (lf Ybq) L) (N Zve (lf Yfa) L))) (N Zb6 (N Zcy (N Zkd (lf Yau) L) (N Zui (lf Yee) L)) (N Zil (N Zm5 (lf Ycm) L) (N Zwa (lf Yg6) L)))) (N o53 (N o85 (N Zci (N Zjx (lf Zxm) L) (N Zu2 (lf Ydy) L)) (N Zi5 (N Zlp (lf Yc6) L) (N Zvu (lf Yfq) L))) (N Zbm (N Zh9 (N Zkt (lf Yba) L) (N Zuy (lf Yeu) L)) (N Zj1 (N Zml (lf Yd2) L) (N Zwq (lf Ygm) L))))) (N o29 (N o45 (N (o77 P) (N Zca (N Zjp (lf Zxe) L) (N Zts (lf Ydq) L)) (N Zhx (N Zlh (lf Yby) L) (N Zvm (lf Yfi) L))) (N Zbe (N Zd6 (N Zkl (lf Yb2) L) (N Zuq (lf Yem) L)) (N Zit (N Zmd (lf Ycu) L) (N Zwi (lf Yge) L)))) (N o61 (N o93 (N Zcq (N Zk5 (lf Zxu) L) (N Zua (lf Ye6) L)) (N Zid (N Zlx (lf Yce) L) (N Zw2 (lf Yfy) L))) (N Zbu (N Zhh (N Zl1 (lf Ybi) L) (N Zv6 (lf Yf2) L)) (N Zj9 (N Zqt (lf Yda) L) (lf Zwy)))))))) (N (o2 P) (N (boot_o_4 P) (N (boot_o_8 P) (N o16 (N o32 (N o64 (N Zbx (N Zjc (lf Zx1) L) (N Zqw (lf Ydd) L)) (N Zhk (N Zl4 (lf Ybl) L) (N Zv9 (lf Yf5) L))) (N o96 (N Zct (N Zk8 (lf Zxx) L) (N Zud (lf Ye9) L)) (N Zig (N Zm0 (lf Ych) L) (N Zw5 (lf Yg1) L)))) (N o48 (N o80 (N Zcd (N Zjs (lf Zxh) L) (N Ztx (lf Ydt) L)) (N Zi0 (N Zlk (lf Yc1) L) (N Zvp (lf Yfl) L))) (N Zbh (N Zd9 (N Zko (lf Yb5) L) (N Zut (lf Yep) L)) (N Ziw (N Zmg (lf Ycx) L) (N Zwl (lf Ygh) L))))) (N o24 (N o40 (N o72 (N Zc5 (N Zjk (lf Zx9) L) (N Ztn (lf Ydl) L)) (N Zhs (N Zlc (lf Ybt) L) (N Zvh (lf Yfd) L))) (N Zb9 (N Zd1 (N Zkg (lf Yax) L) (N Zul (lf Yeh) L)) (N Zio (N Zm8 (lf Ycp) L) (N Zwd (lf Yg9) L)))) (N o56 (N o88 (N Zcl (N (Zk0 P) (lf Zxp) L) (N Zu5 (lf Ye1) L)) (N Zi8 (N Zls (lf Yc9) L) (N Zvx (lf Yft) L))) (N Zbp (N Zhc (N Zkw (lf Ybd) L) (N Zv1 (lf Yex) L)) (N Zj4 (N Zmo (lf Yd5) L) (lf Zwt)))))) (N Jn (N o20 (N o36 (N o68 (N Zc1 (N Zjg (lf Zx5) L) (N Ztj (lf Ydh) L)) (N (Zho P) (N Zl8 (lf Ybp) L) (N Zvd (lf Yf9) L))) (N Zb5 (N Zcx (N Zkc (lf Yat) L) (N Zuh (lf Yed) L)) (N Zik (N Zm4 (lf Ycl) L) (N Zw9 (lf Yg5) L)))) (N o52 (N o84 (N Zch (N Zjw (lf Zxl) L) (N Zu1 (lf Ydx) L)) (N Zi4 (N Zlo (lf Yc5) L) (N Zvt (lf Yfp) L))) (N Zbl (N Zdd (N Zks (lf Yb9) L) (N Zux (lf Yet) L)) (N Zj0 (N Zmk (lf Yd1) L) (N Zwp (lf Ygl) L))))) (N o28 (N o44 (N o76 (N Zc9 (N Zjo (lf Zxd) L) (N Ztr (lf Ydp) L)) (N (Zhw P) (N Zlg (lf Ybx) L) (N Zvl (lf Yfh) L))) (N Zbd (N Zd5 (N Zkk (lf Yb1) L) (N Zup (lf Yel) L)) (N Zis (N Zmc (lf Yct) L) (N Zwh (lf Ygd) L)))) (N o60 (N o92 (N Zcp (N Zk4 (lf Zxt) L) (N Zu9 (lf Ye5) L)) (N Zic (N Zlw (lf Ycd) L) (N Zw1 (lf Yfx) L))) (N Zbt (N Zhg (N Zl0 (lf Ybh) L) (N Zv5 (lf Yf1) L)) (N Zj8 (N Zqs (lf Yd9) L) (lf Zwx))))))) (N (boot_o_6 P) (N (boot_o_10 P) (N o18 (N o34 (N o66 (N Zbz (N Zje (lf Zx3) L) (N Zth (lf Ydf) L)) (N Zhm (N Zl6 (lf Ybn) L) (N Zvb (lf Yf7) L))) (N o98 (N Zcv (N Zka (lf Yar) L) (N Zuf (lf Yeb) L)) (N Zii (N Zm2 (lf Ycj) L) (N Zw7 (lf Yg3) L)))) (N (o50 P) (N o82 (N Zcf (N Zju (lf Zxj) L) (N Ztz (lf Ydv) L)) (N Zi2 (N Zlm (lf Yc3) L) (N Zvr (lf Yfn) L))) (N Zbj (N Zdb (N Zkq (lf Yb7) L) (N Zuv (lf Yer) L)) (N Ziy (N Zmi (lf Ycz) L) (N Zwn (lf Ygj) L))))) (N o26 (N o42 (N o74 (N Zc7 (N Zjm (lf Zxb) L) (N Ztp (lf Ydn) L)) (N Zhu (N Zle (lf Ybv) L) (N Zvj (lf Yff) L))) (N Zbb (N Zd3 (N Zki (lf Yaz) L) (N Zun (lf Yej) L)) (N Ziq (N Zma (lf Ycr) L) (N Zwf (lf Ygb) L)))) (N o58 (N o90 (N Zcn (N Zk2 (lf Zxr) L) (N Zu7 (lf Ye3) L)) (N Zia (N Zlu (lf Ycb) L) (N Zvz (lf Yfv) L))) (N Zbr (N Zhe (N Zky (lf Ybf) L) (N Zv3 (lf Yez) L)) (N Zj6 (N Zqq (lf Yd7) L) (lf Zwv)))))) (N o14 (N o22 (N o38 (N o70 (N Zc3 (N Zji (lf Zx7) L) (N Ztl (lf Ydj) L)) (N Zhq (N Zla (lf Ybr) L) (N Zvf (lf Yfb) L))) (N Zb7 (N Zcz (N Zke (lf Yav) L) (N Zuj (lf Yef) L)) (N Zim (N Zm6 (lf Ycn) L) (N Zwb (lf Yg7) L)))) (N o54 (N o86 (N Zcj (N Zjy (lf Zxn) L) (N Zu3 (lf Ydz) L)) (N Zi6 (N Zlq (lf Yc7) L) (N Zvv (lf Yfr) L))) (N Zbn (N Zha (N Zku (lf Ybb) L) (N Zuz (lf Yev) L)) (N (Zj2 P) (N Zmm (lf Yd3) L) (lf Zwr))))) (N (o30 P) (N o46 (N o78 (N Zcb (N Zjq (lf Zxf) L) (N Ztt (lf Ydr) L)) (N Zhy (N Zli (lf Ybz) L) (N Zvn (lf Yfj) L))) (N Zbf (N Zd7 (N Zkm (lf Yb3) L) (N Zur (lf Yen) L)) (N (Ziu P) (N Zme (lf Ycv) L) (N Zwj (lf Ygf) L)))) (N o62 (N o94 (N Zcr (N Zk6 (lf Zxv) L) (N Zub (lf Ye7) L)) (N Zie (N Zly (lf Ycf) L) (N Zw3 (lf Yfz) L))) (N Zbv (N Zhi (N Zl2 (lf Ybj) L) (N Zv7 (lf Yf3) L)) (N Zja (N Zqu (lf Ydb) L) (lf Zwz)))))))))
noncomputable def ENV:Env:={scope:=PW.main.scope,locals:=mainNs,globals:=mainNs,cells:=[],code:= .ref 13,frame:=some 14}
noncomputable def CD:Code:= .body (behindTheImports PW) ENV
noncomputable def SS (T:Params→BT) (n toks:Nat) (w:World) (os:OsState):SharedT:=⟨T w.params,n,{},#[],{},toks,os⟩
theorem Xu{p:Program}{w:World}{n₀:Nat}{ann:Option Value}{b K:Nat}{s:SharedT}{l:List Stmt}{env:Env}{c:Code}{pos:Pos}{B:List Frame}{r:Option (Flow×SharedT×Code×Pos)}
 (h:PySem.W.Fast.tw10110043849684766642 PySem.W.Fast.tw14364793385576792824 p w n₀ ann b K s ⟨(PySem.W.Fast.tw12563942051412417395 l env).wrap doneF deadEnd id id,c,pos,B⟩=r):
 segRunT treeTable p w n₀ ann b K s (piecesOf l env c pos B)=r:=by
 rw[PySem.W.Fast.te10110043849684766642,PySem.W.Fast.te14364793385576792824];show PySem.W.Fast.tw10110043849684766642 PySem.W.Fast.tw14364793385576792824 p w n₀ ann b K s ⟨(execs l env).wrap doneF deadEnd id id,c,pos,B⟩=r;rw[PySem.W.Fast.te12563942051412417395];exact h
noncomputable def sl (a n:Nat):List Stmt:=(PW.main.body.drop a).take n
theorem Aa(w:World)(os:OsState):segRunT treeTable PW w 11 (some (.ref 6)) 1 1011 (SS T0 15 187 w os) (piecesOf (sl 0 65) ENV CD ⟨0,0,0,0⟩ [topFrame p0])=some (.next,SS T65 47 360 w os,CD,⟨70,0,70,13⟩):=
 Xu (by kernel_rfl)
theorem P5(os:OsState)(w:World):segRunT treeTable PW (w.withFollow "special-get-raises" false) 11 (some (.ref 6)) 1 207 (SS T65 47 360 (w.withFollow "special-get-raises" false) os) (piecesOf (sl 65 1) ENV CD ⟨70,0,70,13⟩ [topFrame p0])=some (.next,SS T66 48 389 (w.withFollow "special-get-raises" false) os,CD,⟨71,0,71,8⟩):=
 Xu (by kernel_rfl)
theorem Mv(os:OsState)(w:World):segRunT treeTable PW (w.withFollow "special-get-raises" true) 11 (some (.ref 6)) 1 207 (SS T65 47 360 (w.withFollow "special-get-raises" true) os) (piecesOf (sl 65 1) ENV CD ⟨70,0,70,13⟩ [topFrame p0])=some (.next,SS T66 48 389 (w.withFollow "special-get-raises" true) os,CD,⟨71,0,71,8⟩):=
 Xu (by kernel_rfl)
theorem Gc(w:World)(os:OsState):segRunT treeTable PW (w) 11 (some (.ref 6)) 1 207 (SS T65 47 360 (w) os) (piecesOf (sl 65 1) ENV CD ⟨70,0,70,13⟩ [topFrame p0])=some (.next,SS T66 48 389 (w) os,CD,⟨71,0,71,8⟩):=
 byRow2 "special-get-raises" (P:=fun w=>segRunT treeTable PW (w) 11 (some (.ref 6)) 1 207 (SS T65 47 360 (w) os) (piecesOf (sl 65 1) ENV CD ⟨70,0,70,13⟩ [topFrame p0])=some (.next,SS T66 48 389 (w) os,CD,⟨71,0,71,8⟩)) (P5 os) (Mv os) w
theorem Jw(w:World)(os:OsState):segRunT treeTable PW w 11 (some (.ref 6)) 1 1003 (SS T66 48 389 w os) (piecesOf (sl 66 46) ENV CD ⟨71,0,71,8⟩ [topFrame p0])=some (.next,SS Zra 181 625 w os,CD,⟨228,0,228,6⟩):=
 Xu (by kernel_rfl)
theorem Mr(w:World)(os:OsState):segRunT treeTable PW w 11 (some (.ref 6)) 1 1863 (SS Zra 181 625 w os) (piecesOf (sl 112 47) ENV CD ⟨228,0,228,6⟩ [topFrame p0])=some (.next,SS Zat 377 1033 w os,CD,⟨404,0,404,8⟩):=
 Xu (by kernel_rfl)
theorem Mt(w:World)(os:OsState):segRunT treeTable PW w 11 (some (.ref 6)) 1 820 (SS Zau 385 1286 w os) (piecesOf (sl 160 32) ENV CD ⟨405,0,405,7⟩ [topFrame p0])=some (.next,SS Zrb 546 1518 w os,CD,⟨527,0,535,97⟩):=
 Xu (by kernel_rfl)
theorem Mu(w:World)(os:OsState):segRunT treeTable PW w 11 (some (.ref 6)) 1 1037 (SS Zrb 546 1518 w os) (piecesOf (sl 192 33) ENV CD ⟨527,0,535,97⟩ [topFrame p0])=some (.next,SS Mb 758 1855 w os,CD,⟨862,0,891,15⟩):=
 Xu (by kernel_rfl)
noncomputable def Gw (h:Int) (l:List DictEntry):Nat→List Nat:=List.rec (motive:=fun _=>Nat→List Nat) (fun _=>[]) (fun e _ ih i=>Bool.rec (ih (i + 1)) (i::ih (i + 1)) (e.hash == h)) l
theorem Nv(h:Int):∀(l pre:List DictEntry),(List.range' pre.length l.length).filter (fun i=>(pre++l)[i]?.map (·.hash) == some h)=Gw h l pre.length
 | [],pre=>rfl
 |e::l,pre=>by
  have ih:=Nv h l (pre++[e]);rw[List.append_assoc,List.singleton_append,List.length_append,List.length_singleton] at ih;rw[List.length_cons,List.range'_succ,List.filter_cons,ih,List.getElem?_append_right (Nat.le_refl _),Nat.sub_self];show(if(e.hash == h)=true then _ else _)= @Bool.rec (fun _=>List Nat) (Gw h l (pre.length + 1)) (pre.length::Gw h l (pre.length + 1)) (e.hash == h);cases(e.hash == h) <;> rfl
theorem Gd(es:Array DictEntry)(h:Int):PySem.W.Fast.tw2965532104302071907 es.size (fun i=>Option.map (fun x=>x.hash) es[i]?) h=Gw h es.toList 0:=by
 rw[← PySem.W.Fast.te2965532104302071907];unfold placesWithHash;rw[List.range_eq_range',show(fun i=>(fun i=>Option.map (fun x:DictEntry=>x.hash) es[i]?) i == some h)=fun i=>([]++es.toList)[i]?.map (·.hash) == some h from funext fun i=>by rw[List.nil_append,Array.getElem?_toList]];exact Nv h es.toList []
noncomputable def findDS:{f:Addr→Value→Int→Sem (Option Nat) // PySem.W.Fast.tw7228091826238408665=f}:=⟨_,by
 delta PySem.W.Fast.tw7228091826238408665
 simp(config:={zeta:=false}) only[Gd]
 rfl⟩
noncomputable def Zf7:=findDS.1
theorem Ux:PySem.W.Fast.tw7228091826238408665=Zf7:=findDS.2
noncomputable def putDS:{f:Addr→Int→Value→Value→Sem Unit // PySem.W.Fast.tw9652029157277244616=f}:=⟨_,by
 delta PySem.W.Fast.tw9652029157277244616
 rw[Ux]⟩
noncomputable def Zy7:=putDS.1
theorem Gf:PySem.W.Fast.tw9652029157277244616=Zy7:=putDS.2
noncomputable def shDS:{f:Addr→Value→Int→Value→Sem Unit // PySem.W.Fast.tw4359058424727691002=f}:=⟨_,by
 delta PySem.W.Fast.tw4359058424727691002
 rw[Ux]⟩
noncomputable def Yj4:=shDS.1
theorem A1:PySem.W.Fast.tw4359058424727691002=Yj4:=shDS.2
noncomputable def setDS:{f:Addr→Value→Value→Sem Unit // PySem.W.Fast.tw11925912800584824493=f}:=⟨_,by
 delta PySem.W.Fast.tw11925912800584824493
 rw[A1]⟩
noncomputable def Zz5:=setDS.1
theorem Nx:PySem.W.Fast.tw11925912800584824493=Zz5:=setDS.2
noncomputable def subDS:{f:List (Sem Value×Sem Value)→Sem Addr // PySem.W.Fast.tw11913375310210876947=f}:=⟨_,by
 delta PySem.W.Fast.tw11913375310210876947
 rw[Nx]⟩
noncomputable def Zz8:=subDS.1
theorem G4:PySem.W.Fast.tw11913375310210876947=Zz8:=subDS.2
noncomputable def mrgDS:{f:Addr→Value→Bool→Sem Unit // PySem.W.Fast.tw8596071696976842438=f}:=⟨_,by
 delta PySem.W.Fast.tw8596071696976842438
 rw[Ux,Gf,Nx]⟩
noncomputable def Zt9:=mrgDS.1
theorem H3:PySem.W.Fast.tw8596071696976842438=Zt9:=mrgDS.2
noncomputable def dspDS:{f:List (Option (Sem Value)×Sem Value)→Sem Value // dictDisplay=f}:=⟨_,PySem.W.Fast.te11216187645035866516.trans (by
 delta PySem.W.Fast.tw11216187645035866516
 rw[G4,H3])⟩
noncomputable def Zeo:=dspDS.1
theorem I9:dictDisplay=Zeo:=dspDS.2
noncomputable def Zre (x:Str) (p' p:Pos) (env:Env) (d:Sem Value):Sem Flow:=do
 match ← (do standAt p;let v ← d;standAt p';PySem.W.Fast.tw7536695828754713326 env x v;pure Flow.next:Sem Flow) with
 |.next=>pure .next
 |f=>pure f
noncomputable def Du (ks:List (Option Expr)) (vs:List Expr) (pd:Pos) (env:Env):Sem Value:=do
 standAt pd
 Zeo ((evalEachOpt ks env).zip ((PySem.W.Fast.tw10458482166411082596 vs env).map fun v=>do let x ← v;standAt pd;pure x))
theorem D4(x:Str)(p' p pd:Pos)(ks:List (Option Expr))(vs:List Expr)(env:Env):execs [.Assign [.Name x p'] (.Dict ks vs pd) p] env=Zre x p' p env (Du ks vs pd env):=by
 rw[execs_cons,exec_Assign_Name (hs:=rfl),execs_nil];unfold Zre Du;rw[← I9,← PySem.W.Fast.te7536695828754713326,← PySem.W.Fast.te10458482166411082596];rfl
noncomputable def dKs (s:Stmt):List (Option Expr):=match s with
 |.Assign _ (.Dict ks _ _) _=>ks
 |_=>[]
noncomputable def dVs (s:Stmt):List Expr:=match s with
 |.Assign _ (.Dict _ vs _) _=>vs
 |_=>[]
noncomputable def dPs (s:Stmt):Pos×Pos×Pos:=match s with
 |.Assign (.Name _ p'::_) (.Dict _ _ pd) p=>(p',p,pd)
 |_=>(p0,p0,p0)
theorem Zoy:sl 159 1=[.Assign [.Name "OP_SORT" (dPs (Zb 159)).1] (.Dict (dKs (Zb 159)) (dVs (Zb 159)) (dPs (Zb 159)).2.2) (dPs (Zb 159)).2.1]:=by kernel_rfl
theorem Fi:execs (sl 159 1) ENV=Zre "OP_SORT" (dPs (Zb 159)).1 (dPs (Zb 159)).2.1 ENV (Du (dKs (Zb 159)) (dVs (Zb 159)) (dPs (Zb 159)).2.2 ENV):=by
 rw[Zoy];exact D4 ..
theorem Zos{p:Program}{w:World}{n₀:Nat}{ann:Option Value}{b K:Nat}{s:SharedT}{l:List Stmt}{env:Env}{c:Code}{pos:Pos}{B:List Frame}{r:Option (Flow×SharedT×Code×Pos)}{X:Sem Flow}(hX:execs l env=X)
 (h:PySem.W.Fast.tw10110043849684766642 PySem.W.Fast.tw14364793385576792824 p w n₀ ann b K s ⟨X.wrap doneF deadEnd id id,c,pos,B⟩=r):segRunT treeTable p w n₀ ann b K s (piecesOf l env c pos B)=r:=by
 rw[PySem.W.Fast.te10110043849684766642,PySem.W.Fast.te14364793385576792824];show PySem.W.Fast.tw10110043849684766642 PySem.W.Fast.tw14364793385576792824 p w n₀ ann b K s ⟨(execs l env).wrap doneF deadEnd id id,c,pos,B⟩=r;rw[hX];exact h
theorem Qk(os:OsState)(w:World):segRunT treeTable PW (w.withFollow "special-get-raises" false) 11 (some (.ref 6)) 1 2478 (SS Zat 377 1033 (w.withFollow "special-get-raises" false) os) (piecesOf (sl 159 1) ENV CD ⟨404,0,404,8⟩ [topFrame p0])=some (.next,SS Zau 385 1286 (w.withFollow "special-get-raises" false) os,CD,⟨405,0,405,7⟩):=
 Zos Fi (by kernel_rfl)
theorem Pz(os:OsState)(w:World):segRunT treeTable PW (w.withFollow "special-get-raises" true) 11 (some (.ref 6)) 1 2478 (SS Zat 377 1033 (w.withFollow "special-get-raises" true) os) (piecesOf (sl 159 1) ENV CD ⟨404,0,404,8⟩ [topFrame p0])=some (.next,SS Zau 385 1286 (w.withFollow "special-get-raises" true) os,CD,⟨405,0,405,7⟩):=
 Zos Fi (by kernel_rfl)
theorem Ms(w:World)(os:OsState):segRunT treeTable PW (w) 11 (some (.ref 6)) 1 2478 (SS Zat 377 1033 (w) os) (piecesOf (sl 159 1) ENV CD ⟨404,0,404,8⟩ [topFrame p0])=some (.next,SS Zau 385 1286 (w) os,CD,⟨405,0,405,7⟩):=
 byRow2 "special-get-raises" (P:=fun w=>segRunT treeTable PW (w) 11 (some (.ref 6)) 1 2478 (SS Zat 377 1033 (w) os) (piecesOf (sl 159 1) ENV CD ⟨404,0,404,8⟩ [topFrame p0])=some (.next,SS Zau 385 1286 (w) os,CD,⟨405,0,405,7⟩)) (Qk os) (Pz os) w
theorem Dc:behindTheImports PW=PW.main.body:=by kernel_rfl
theorem Yy{α:Type}(l:List α)(a n:Nat):l.drop a=(l.drop a).take n++l.drop (a + n):=by
 rw[← List.drop_drop,List.take_append_drop]
theorem I0:PW.main.body.drop 225=[]:=by kernel_rfl
theorem Yiu(w:World)(os:OsState):topRun treeTable PW w 11 (some (.ref 6)) 2 (SS Mb 758 1855 w os).abs ⟨doneF .next,CD,⟨862,0,891,15⟩,[topFrame p0]⟩=some (SS Mb 758 1855 w os).abs:=by kernel_rfl
theorem Yit(w:World)(os:OsState):topRun treeTable PW w 11 (some (.ref 6)) (1037 + 2) (SS Zrb 546 1518 w os).abs (restOf (PW.main.body.drop 192) ENV CD ⟨527,0,535,97⟩ [topFrame p0])=some (SS Mb 758 1855 w os).abs:=by
 rw[Yy _ 192 33];exact piece_app (segRun_of (Mu w os)) (by rw[I0];exact piece_nil (Yiu w os))
theorem Yis(w:World)(os:OsState):topRun treeTable PW w 11 (some (.ref 6)) (820 + (1037 + 2)) (SS Zau 385 1286 w os).abs (restOf (PW.main.body.drop 160) ENV CD ⟨405,0,405,7⟩ [topFrame p0])=some (SS Mb 758 1855 w os).abs:=by
 rw[Yy _ 160 32];exact piece_app (segRun_of (Mt w os)) (Yit w os)
theorem Yir(w:World)(os:OsState):topRun treeTable PW w 11 (some (.ref 6)) (2478 + (820 + (1037 + 2))) (SS Zat 377 1033 w os).abs (restOf (PW.main.body.drop 159) ENV CD ⟨404,0,404,8⟩ [topFrame p0])=some (SS Mb 758 1855 w os).abs:=by
 rw[Yy _ 159 1];exact piece_app (segRun_of (Ms w os)) (Yis w os)
theorem Yiq(w:World)(os:OsState):topRun treeTable PW w 11 (some (.ref 6)) (1863 + (2478 + (820 + (1037 + 2)))) (SS Zra 181 625 w os).abs (restOf (PW.main.body.drop 112) ENV CD ⟨228,0,228,6⟩ [topFrame p0])=some (SS Mb 758 1855 w os).abs:=by
 rw[Yy _ 112 47];exact piece_app (segRun_of (Mr w os)) (Yir w os)
theorem r66(w:World)(os:OsState):topRun treeTable PW w 11 (some (.ref 6)) (1003 + (1863 + (2478 + (820 + (1037 + 2))))) (SS T66 48 389 w os).abs (restOf (PW.main.body.drop 66) ENV CD ⟨71,0,71,8⟩ [topFrame p0])=some (SS Mb 758 1855 w os).abs:=by
 rw[Yy _ 66 46];exact piece_app (segRun_of (Jw w os)) (Yiq w os)
theorem r65(w:World)(os:OsState):topRun treeTable PW w 11 (some (.ref 6)) (207 + (1003 + (1863 + (2478 + (820 + (1037 + 2)))))) (SS T65 47 360 w os).abs (restOf (PW.main.body.drop 65) ENV CD ⟨70,0,70,13⟩ [topFrame p0])=some (SS Mb 758 1855 w os).abs:=by
 rw[Yy _ 65 1];exact piece_app (segRun_of (Gc w os)) (r66 w os)
theorem r0(w:World)(os:OsState):topRun treeTable PW w 11 (some (.ref 6)) (1011 + (207 + (1003 + (1863 + (2478 + (820 + (1037 + 2))))))) (SS T0 15 187 w os).abs (restOf (PW.main.body.drop 0) ENV CD ⟨0,0,0,0⟩ [topFrame p0])=some (SS Mb 758 1855 w os).abs:=by
 rw[Yy _ 0 65];exact piece_app (segRun_of (Aa w os)) (r65 w os)
theorem blk(w:World)(os:OsState):segRun treeTable PW w 11 (some (.ref 6)) 1 1 (SS T0 15 187 w os).abs (blockOf (behindTheImports PW) ENV CD ⟨0,0,0,0⟩ [topFrame p0])=some (.next,(SS T0 15 187 w os).abs,CD,⟨0,0,0,0⟩):=by kernel_rfl
theorem Yip(w:World)(os:OsState):topGo treeTable PW w 11 (some (.ref 6)) 12 ⟨boot_heap w.params,#[],boot_drawn,boot_toks,os⟩ (topStub PW)=some ((SS T0 15 187 w os).abs,⟨denote treeTable CD,CD,⟨0,0,0,0⟩,[topFrame p0]⟩):=by
 rw[PySem.W.Fast.te15667345088766844465,PySem.W.Fast.te14364793385576792824,PySem.W.Fast.te11892475500146522536]
 kernel_rfl
theorem Yj2(w:World)(os:OsState):topRun treeTable PW w 11 (some (.ref 6)) (12 + (1 + (1011 + (207 + (1003 + (1863 + (2478 + (820 + (1037 + 2))))))))) ⟨boot_heap w.params,#[],boot_drawn,boot_toks,os⟩ (topStub PW)=some (SS Mb 758 1855 w os).abs:=by
 refine go_top (Yip w os) ?_;refine piece_block (blk w os) ?_;rw[Dc];exact r0 w os
theorem Zn1:∀w:World,(fencedOpening treeTable PW w 17000).map (fun s=>(s.heap,s.gens,s.drawn,s.toks))=some (boot_heap w.params,Array.mk [],boot_drawn,boot_toks):=
 boot_open (by kernel_rfl) (by decide) (fun s=>by kernel_rfl)
theorem Zz6(w:World):((boot_heap w.params).isNs mainGlobals&&(Array.mk []:Array GenState).size == 0,(boot_heap w.params).objs.size,(boot_heap w.params).nsMap mainGlobals "__annotations__")=(true,11,(some (.ref 6))):=by
 kernel_rfl
noncomputable def H1 (P:Params):Heap:=absHeap (Mb P) 758 {}
noncomputable def QV:Program:={PW with main:={PW.main with body:=[Zb 224]}}
noncomputable def Lb:List Str:=(["OP_LDC_I4","OP_CALL","OP_RET","OP_BR","OP_BRFALSE","OP_BRTRUE","OP_BEQ","OP_BLE","OP_BLT","OP_BLE_UN","OP_BLT_UN","OP_ADD","OP_SUB","OP_MUL","OP_CONV_I4","OP_CALLVIRT","OP_LDSTR","OP_NEWOBJ","OP_THROW","OP_LDFLD","OP_STFLD","OP_BOX","OP_NEWARR","OP_LDLEN","OP_LDELEM","OP_STELEM","OP_LDARG","OP_LDLOC","OP_STLOC","A_PRIVATE","A_ASSEMBLY","A_PUBLIC","RuneError","BadKind","VOID","BOOL","CHAR","I1","U1","I2","U2","I4","U4","I8","U8","NINT","OBJECT","STRING","NULLK","PRIM_END","R_PRIM","R_CLASS","R_VALUE","R_ARRAY","R_BYREF","R_VAR","R_MVAR","R_BOXED","R_ROREF","R_FTN","R_RAW","DEEPEST_KIND","HEAVIEST_KIND","TID_PRIM","KindTable","inner_kinds","row_level","row_length","check_kind_row","check_named","check_args","may_stand","class_kind","value_kind","prim_kind","array_kind","var_kind","is_value","is_var","CF_ITEMS","CF_COUNT","CF_VERSION","CF_LE_LIST","CF_LE_AT","CF_LE_CUR","CF_LE_VER","CF_END","CM_OBJ_CTOR","CM_OBJ_EQUALS","CM_EX_CTOR0","CM_EXCEPTIONS","CM_LIST_CTOR","CM_ADD","CM_LIST_COUNT","CM_GETITEM","CM_SETITEM","CM_REMOVEAT","CM_CLEAR","CM_CONTAINS","CM_LIST_ENUM","CM_INSERT","CM_LE_CTOR","CM_LE_MOVE","CM_LE_CURRENT","CM_LE_DISPOSE","CM_END","S_CLASS","S_STRUCT","S_ENUM","VA_NONE","MF_VIRTUAL","MF_NEWSLOT","MF_FINAL","MF_CTOR","MF_CCTOR","MF_SPECIAL","T_OBJECT","T_EXCEPTION","T_NULLREF","T_INVALIDOP","T_ARGRANGE","T_IENUM","T_IENUMERATOR","T_LIST","T_LISTENUM","TypeDef","FieldDef","MethodDef","Body","Store","plain_names","add_iface","put_field_at","kept_flags","put_method_at","note_method","set_body","put_once","add_prop","exception_ctor","self_kind","kind_with","is_virtual","SO_NONE","SO_I4","SO_I8","SO_ARG","SO_LOCAL","SO_BRANCH","SO_SWITCH","SO_KIND","SO_FIELD","SO_METHOD","SO_TEXT","SO_TOKEN","OP_SORT","is_branch","MARK","settle","put_prop","plain_class","call_of","ctor_of","throw_rows","CM_LIST_GROW","FIRST_SIZE","SEALED_VIRTUAL","TEXT_INDEX","TEXT_INSERT","TEXT_CHANGED","load_items","load_count","add_to","step_local","check_index","put_member","grow_rows","add_rows","set_rows","remove_rows","insert_rows","clear_rows","contains_rows","install_list_fields","install_list_reading","install_list_writing","put_walker","walker_field","walker_list","walker_start","move_rows","install_walker","install_core_list","_law_run","_law_rare","_law_sides","_law_new","_law_bare_new","_law_held","_law_deed","_law_alike","_law_drawn","_law_ends","_law_undone","_law_replaced","_law_both_in","_law_both_out","_law_again","_law_any","_law_walker","_law_moves","_law_stale","_law_walkers","_law_walk","_law_refused","_law_found","_law_step"]:List String).map Str.ofString
noncomputable def KA:List Addr:=List.range 758
noncomputable def KF (P:Params):Frag:=[(0,boot_o_0 P),(1,boot_o_1 P),(2,o2 P),(3,Eb P),(4,boot_o_4 P),(5,boot_o_5 P),(6,boot_o_6 P),(7,boot_o_7 P),(8,boot_o_8 P),(9,boot_o_9 P),(10,boot_o_10 P),(11,o11),(12,Jn),(13,o13),(14,o14),(15,o15),(16,o16),(17,o17 P),(18,o18),(19,o19),(20,o20),(21,o21),(22,o22),(23,o23),(24,o24),(25,o25),(26,o26),(27,o27),(28,o28),(29,o29),(30,o30 P),(31,o31),(32,o32),(33,o33),(34,o34),(35,o35),(36,o36),(37,o37 P),(38,o38),(39,o39),(40,o40),(41,o41),(42,o42),(43,o43 P),(44,o44),(45,o45),(46,o46),(47,o47),(48,o48),(49,o49),(50,o50 P),(51,o51),(52,o52),(53,o53),(54,o54),(55,o55),(56,o56),(57,o57),(58,o58),(59,o59),(60,o60),(61,o61),(62,o62),(63,o63),(64,o64),(65,o65),(66,o66),(67,o67),(68,o68),(69,o69),(70,o70),(71,o71),(72,o72),(73,o73),(74,o74),(75,o75),(76,o76),(77,o77 P),(78,o78),(79,o79),(80,o80),(81,o81),(82,o82),(83,o83),(84,o84),(85,o85),(86,o86),(87,o87),(88,o88),(89,o89),(90,o90),(91,o91),(92,o92),(93,o93),(94,o94),(95,o95),(96,o96),(97,o97),(98,o98),(99,o99),(100,Zb5),(101,Zb6),(102,Zb7),(103,Zb8),(104,Zb9),(105,Zba),(106,Zbb),(107,Zbc),(108,Zbd),(109,Zbe),(110,Zbf),(111,Zbg),(112,Zbh),(113,Zbi),(114,Zbj),(115,Zbk),(116,Zbl),(117,Zbm),(118,Zbn),(119,Zbo),(120,Zbp),(121,Zbq),(122,Zbr),(123,Zbs),(124,Zbt),(125,Zbu),(126,Zbv),(127,Zbw),(128,Zbx),(129,Zby),(130,Zbz),(131,Zc0),(132,Zc1),(133,Zc2),(134,Zc3),(135,Zc4),(136,Zc5),(137,Zc6),(138,Zc7),(139,Zc8),(140,Zc9),(141,Zca),(142,Zcb),(143,Zcc),(144,Zcd),(145,Zce),(146,Zcf),(147,Zcg),(148,Zch),(149,Zci),(150,Zcj),(151,Zck),(152,Zcl),(153,Zcm),(154,Zcn),(155,Zco),(156,Zcp),(157,Zcq),(158,Zcr),(159,Zcs),(160,Zct),(161,Zcu),(162,Zcv),(163,Zcw),(164,Zcx),(165,Zcy),(166,Zcz),(167,Zd0),(168,Zd1),(169,Zd2),(170,Zd3),(171,Zd4),(172,Zd5),(173,Zd6),(174,Zd7),(175,Zd8),(176,Zd9),(177,Zda),(178,Zdb),(179,Zdc),(180,Zdd),(181,Zh9),(182,Zha),(183,Zhb P),(184,Zhc),(185,Zhd),(186,Zhe),(187,Zhf),(188,Zhg),(189,Zhh),(190,Zhi),(191,Zhj),(192,Zhk),(193,Zhl),(194,Zhm),(195,Zhn),(196,Zho P),(197,Zhp),(198,Zhq),(199,Zhr),(200,Zhs),(201,Zht),(202,Zhu),(203,Zhv),(204,Zhw P),(205,Zhx),(206,Zhy),(207,Zhz),(208,Zi0),(209,Zi1),(210,Zi2),(211,Zi3),(212,Zi4),(213,Zi5),(214,Zi6),(215,Zi7),(216,Zi8),(217,Zi9 P),(218,Zia),(219,Zib),(220,Zic),(221,Zid),(222,Zie),(223,Zif),(224,Zig),(225,Zih P),(226,Zii),(227,Zij),(228,Zik),(229,Zil),(230,Zim),(231,Zin),(232,Zio),(233,Zip),(234,Ziq),(235,Zir),(236,Zis),(237,Zit),(238,Ziu P),(239,Ziv),(240,Ziw),(241,Zix),(242,Ziy),(243,Ziz),(244,Zj0),(245,Zj1),(246,Zj2 P),(247,Zj3),(248,Zj4),(249,Zj5),(250,Zj6),(251,Zj7),(252,Zj8),(253,Zj9),(254,Zja),(255,Zjb),(256,Zjc),(257,Zjd),(258,Zje),(259,Zjf P),(260,Zjg),(261,Zjh),(262,Zji),(263,Zjj),(264,Zjk),(265,Zjl),(266,Zjm),(267,Zjn P),(268,Zjo),(269,Zjp),(270,Zjq),(271,Zjr),(272,Zjs),(273,Zjt),(274,Zju),(275,Zjv),(276,Zjw),(277,Zjx),(278,Zjy),(279,Zjz),(280,Zk0 P),(281,Zk1),(282,Zk2),(283,Zk3),(284,Zk4),(285,Zk5),(286,Zk6),(287,Zk7),(288,Zk8),(289,Zk9),(290,Zka),(291,Zkb),(292,Zkc),(293,Zkd),(294,Zke),(295,Zkf),(296,Zkg),(297,Zkh),(298,Zki),(299,Zkj),(300,Zkk),(301,Zkl),(302,Zkm),(303,Zkn),(304,Zko),(305,Zkp),(306,Zkq),(307,Zkr),(308,Zks),(309,Zkt),(310,Zku),(311,Zkv),(312,Zkw),(313,Zkx),(314,Zky),(315,Zkz),(316,Zl0),(317,Zl1),(318,Zl2),(319,Zl3),(320,Zl4),(321,Zl5),(322,Zl6),(323,Zl7),(324,Zl8),(325,Zl9),(326,Zla),(327,Zlb),(328,Zlc),(329,Zld),(330,Zle),(331,Zlf),(332,Zlg),(333,Zlh),(334,Zli),(335,Zlj),(336,Zlk),(337,Zll),(338,Zlm),(339,Zln),(340,Zlo),(341,Zlp),(342,Zlq),(343,Zlr),(344,Zls),(345,Zlt),(346,Zlu),(347,Zlv),(348,Zlw),(349,Zlx),(350,Zly),(351,Zlz),(352,Zm0),(353,Zm1),(354,Zm2),(355,Zm3),(356,Zm4),(357,Zm5),(358,Zm6),(359,Zm7),(360,Zm8),(361,Zm9),(362,Zma),(363,Zmb),(364,Zmc),(365,Zmd),(366,Zme),(367,Zmf),(368,Zmg),(369,Zmh),(370,Zmi),(371,Zmj),(372,Zmk),(373,Zml),(374,Zmm),(375,Zmn),(376,Zmo),(377,Zqp),(378,Zqq),(379,Zqr),(380,Zqs),(381,Zqt),(382,Zqu),(383,Zqv),(384,Zqw),(385,Ztg),(386,Zth),(387,Zti),(388,Ztj),(389,Ztk),(390,Ztl),(391,Ztm),(392,Ztn),(393,Zto),(394,Ztp),(395,Ztq),(396,Ztr),(397,Zts),(398,Ztt),(399,Ztu),(400,Ztx),(401,Zty),(402,Ztz),(403,Zu0),(404,Zu1),(405,Zu2),(406,Zu3),(407,Zu4),(408,Zu5),(409,Zu6),(410,Zu7),(411,Zu8),(412,Zu9),(413,Zua),(414,Zub),(415,Zuc),(416,Zud),(417,Zue),(418,Zuf),(419,Zug),(420,Zuh),(421,Zui),(422,Zuj),(423,Zuk),(424,Zul),(425,Zum),(426,Zun),(427,Zuo),(428,Zup),(429,Zuq),(430,Zur),(431,Zus),(432,Zut),(433,Zuu),(434,Zuv),(435,Zuw),(436,Zux),(437,Zuy),(438,Zuz),(439,Zv0),(440,Zv1),(441,Zv2),(442,Zv3),(443,Zv4),(444,Zv5),(445,Zv6),(446,Zv7),(447,Zv8),(448,Zv9),(449,Zva),(450,Zvb),(451,Zvc),(452,Zvd),(453,Zve),(454,Zvf),(455,Zvg),(456,Zvh),(457,Zvi),(458,Zvj),(459,Zvk),(460,Zvl),(461,Zvm),(462,Zvn),(463,Zvo),(464,Zvp),(465,Zvq),(466,Zvr),(467,Zvs),(468,Zvt),(469,Zvu),(470,Zvv),(471,Zvw),(472,Zvx),(473,Zvy),(474,Zvz),(475,Zw0),(476,Zw1),(477,Zw2),(478,Zw3),(479,Zw4),(480,Zw5),(481,Zw6),(482,Zw7),(483,Zw8),(484,Zw9),(485,Zwa),(486,Zwb),(487,Zwc),(488,Zwd),(489,Zwe),(490,Zwf),(491,Zwg),(492,Zwh),(493,Zwi),(494,Zwj),(495,Zwk),(496,Zwl),(497,Zwm),(498,Zwn),(499,Zwo),(500,Zwp),(501,Zwq),(502,Zwr),(503,Zws),(504,Zwt),(505,Zwu),(506,Zwv),(507,Zww),(508,Zwx),(509,Zwy),(510,Zwz),(511,Zx0),(512,Zx1),(513,Zx2),(514,Zx3),(515,Zx4),(516,Zx5),(517,Zx6),(518,Zx7),(519,Zx8),(520,Zx9),(521,Zxa),(522,Zxb),(523,Zxc),(524,Zxd),(525,Zxe),(526,Zxf),(527,Zxg),(528,Zxh),(529,Zxi),(530,Zxj),(531,Zxk),(532,Zxl),(533,Zxm),(534,Zxn),(535,Zxo),(536,Zxp),(537,Zxq),(538,Zxr),(539,Zxs),(540,Zxt),(541,Zxu),(542,Zxv),(543,Zxw),(544,Zxx),(545,Zxy),(546,Yar),(547,Yas),(548,Yat),(549,Yau),(550,Yav),(551,Yaw),(552,Yax),(553,Yay),(554,Yaz),(555,Yb0),(556,Yb1),(557,Yb2),(558,Yb3),(559,Yb4),(560,Yb5),(561,Yb6),(562,Yb7),(563,Yb8),(564,Yb9),(565,Yba),(566,Ybb),(567,Ybc),(568,Ybd),(569,Ybe),(570,Ybf),(571,Ybg),(572,Ybh),(573,Ybi),(574,Ybj),(575,Ybk),(576,Ybl),(577,Ybm),(578,Ybn),(579,Ybo),(580,Ybp),(581,Ybq),(582,Ybr),(583,Ybs),(584,Ybt),(585,Ybu),(586,Ybv),(587,Ybw),(588,Ybx),(589,Yby),(590,Ybz),(591,Yc0),(592,Yc1),(593,Yc2),(594,Yc3),(595,Yc4),(596,Yc5),(597,Yc6),(598,Yc7),(599,Yc8),(600,Yc9),(601,Yca),(602,Ycb),(603,Ycc),(604,Ycd),(605,Yce),(606,Ycf),(607,Ycg),(608,Ych),(609,Yci),(610,Ycj),(611,Yck),(612,Ycl),(613,Ycm),(614,Ycn),(615,Yco),(616,Ycp),(617,Ycq),(618,Ycr),(619,Ycs),(620,Yct),(621,Ycu),(622,Ycv),(623,Ycw),(624,Ycx),(625,Ycy),(626,Ycz),(627,Yd0),(628,Yd1),(629,Yd2),(630,Yd3),(631,Yd4),(632,Yd5),(633,Yd6),(634,Yd7),(635,Yd8),(636,Yd9),(637,Yda),(638,Ydb),(639,Ydc),(640,Ydd),(641,Yde),(642,Ydf),(643,Ydg),(644,Ydh),(645,Ydi),(646,Ydj),(647,Ydk),(648,Ydl),(649,Ydm),(650,Ydn),(651,Ydo),(652,Ydp),(653,Ydq),(654,Ydr),(655,Yds),(656,Ydt),(657,Ydu),(658,Ydv),(659,Ydw),(660,Ydx),(661,Ydy),(662,Ydz),(663,Ye0),(664,Ye1),(665,Ye2),(666,Ye3),(667,Ye4),(668,Ye5),(669,Ye6),(670,Ye7),(671,Ye8),(672,Ye9),(673,Yea),(674,Yeb),(675,Yec),(676,Yed),(677,Yee),(678,Yef),(679,Yeg),(680,Yeh),(681,Yei),(682,Yej),(683,Yek),(684,Yel),(685,Yem),(686,Yen),(687,Yeo),(688,Yep),(689,Yeq),(690,Yer),(691,Yes),(692,Yet),(693,Yeu),(694,Yev),(695,Yew),(696,Yex),(697,Yey),(698,Yez),(699,Yf0),(700,Yf1),(701,Yf2),(702,Yf3),(703,Yf4),(704,Yf5),(705,Yf6),(706,Yf7),(707,Yf8),(708,Yf9),(709,Yfa),(710,Yfb),(711,Yfc),(712,Yfd),(713,Yfe),(714,Yff),(715,Yfg),(716,Yfh),(717,Yfi),(718,Yfj),(719,Yfk),(720,Yfl),(721,Yfm),(722,Yfn),(723,Yfo),(724,Yfp),(725,Yfq),(726,Yfr),(727,Yfs),(728,Yft),(729,Yfu),(730,Yfv),(731,Yfw),(732,Yfx),(733,Yfy),(734,Yfz),(735,Yg0),(736,Yg1),(737,Yg2),(738,Yg3),(739,Yg4),(740,Yg5),(741,Yg6),(742,Yg7),(743,Yg8),(744,Yg9),(745,Yga),(746,Ygb),(747,Ygc),(748,Ygd),(749,Yge),(750,Ygf),(751,Ygg),(752,Ygh),(753,Ygi),(754,Ygj),(755,Ygk),(756,Ygl),(757,Ygm)]
noncomputable def XT:Shared→Bool:=fun _=>true
noncomputable def YF:Shared→List (Option Obj):=fun s=>KA.map s.heap.get?
noncomputable def YA:World→List (Option Obj):=fun w=>(KF w.params).map fun p=>some p.2
theorem Yj5(w:World):staticsOk (importedModules PW.main.body) (boot_heap w.params) (H1 w.params)=true:=by kernel_rfl
theorem Zsv(w:World):laidKept (boot_heap w.params) (H1 w.params)=true:=by kernel_rfl
theorem Zfp(w:World)(os:OsState):gensDone ⟨H1 w.params,#[],{},1855,os⟩=true:=by kernel_rfl
theorem Bp(w:World):((H1 w.params).isNs mainGlobals,(H1 w.params).nsKeys mainGlobals)=(true,startupNames++PW.boundNames.eraseIdx 32):=by kernel_rfl
theorem nb_(w:World):namesBound PW (H1 w.params)=true:=by
 have h:=Bp w;unfold namesBound;rw[show(H1 w.params).isNs mainGlobals=true from congrArg (·.1) h,show(H1 w.params).nsKeys mainGlobals=startupNames++PW.boundNames.eraseIdx 32 from congrArg (·.2) h];exact List.all_eq_true.mpr fun k hk=>Bool.or_eq_true_iff.mpr ((List.mem_append.mp hk).imp (fun h=>List.contains_iff_mem.mpr h) fun h=>List.contains_iff_mem.mpr (List.mem_of_mem_eraseIdx h))
theorem Zsz(w:World)(os:OsState):(staticsOk (importedModules PW.main.body) (boot_heap w.params) (H1 w.params)&&namesBound PW (H1 w.params)&&gensDone ⟨H1 w.params,#[],{},1855,os⟩&&laidKept (boot_heap w.params) (H1 w.params))=true:=by
 rw[Yj5 w,nb_ w,Zfp w os,Zsv w];rfl
noncomputable def gtT (t:BT) (a:Nat):Option Obj:=alive ((t.get a).getD default)
theorem Zfr(t:BT){n a:Nat}(h:a < n):(absHeap t n {}).get? a=gtT t a:=by
 unfold Heap.get? gtT;rw[absHeap_at,if_pos h];generalize (t.get a).getD default=o;obtain⟨c,d,dt,sl⟩:=o;cases dt <;> rfl
theorem Zgr(P:Params):KA.map (gtT (Mb P))=(KF P).map fun p=>some p.2:=by kernel_rfl
theorem Zt1(w:World)(os:OsState):YF ⟨H1 w.params,#[],{},1855,os⟩=YA w:=
 (List.map_congr_left fun a h=>Zfr _ (List.mem_range.mp h)).trans (Zgr w.params)
theorem Zt0(w:World)(os:OsState):openSeen QV Lb (importedModules PW.main.body) XT true ⟨H1 w.params,#[],{},1855,os⟩=openGood QV Lb:=by
 rw[PySem.W.Fast.te4187177175401517315]
 kernel_rfl
theorem Zsy:LeftO PW QV Lb XT YF YA 17000 true:=
 LeftO.of_pieces (H₀:=boot_heap) (H₁:=H1) (m₀:=11) (ann:=(some (.ref 6))) Zn1 Zz6 (fun w os=>Yj2 w os) (by decide) (fun w=>funext fun os=>by rw[Zsz w os,Zt0 w os,Zt1 w os])
set_option genInjectivity false
set_option genSizeOf false
abbrev D:=PyData
theorem nf{P:Prop}(h:false=true):P:=nomatch h
section
variable{α β γ:Type}
theorem nn{a:α}{P:Prop}(h:none=some a):P:=nomatch h
theorem sj{a b:α}(h:some a=some b):a=b:=Option.some.inj h
theorem sp{a c:α}{b d:β}(h:some (a,b)=some (c,d)):a=c∧b=d:=Prod.mk.inj (sj h)
noncomputable def ob (x:Option α) (f:α→Option β):Option β:=Option.rec none f x
noncomputable def bd (x:Option (α×β)) (f:α→β→Option γ):Option γ:=Option.rec none (fun p=>Prod.rec f p) x
noncomputable def gd (b:Bool) (x:Option α):Option α:=Bool.rec none x b
noncomputable def bp (b:Bool) (x y:α):α:=Bool.rec y x b
theorem Za{x:Option α}{f:α→Option β}{r:β}(h:ob x f=some r){P:Prop}(k:∀a,x=some a→f a=some r→P):P:=by
 cases x with
 |none=>exact nn h
 |some a=>exact k a rfl h
theorem Yk{x:Option (α×β)}{f:α→β→Option γ}{r:γ}(h:bd x f=some r){P:Prop}(k:∀a b,x=some (a,b)→f a b=some r→P):P:=by
 cases x with
 |none=>exact nn h
 |some p=>exact k p.1 p.2 rfl h
theorem Zl{b:Bool}{x:Option α}{r:α}(h:gd b x=some r){P:Prop}(k:b=true→x=some r→P):P:=by
 cases b with
 |false=>exact nn h
 |true=>exact k rfl h
theorem Vc{b:Bool}{x y:Option α}{r:α}(h:bp b x y=some r){P:Prop}(k:b=true→x=some r→P)(k':b=false→y=some r→P):P:=by
 cases b with
 |false=>exact k' rfl h
 |true=>exact k rfl h
theorem Mp{x:Option α}{f:α→Option β}{a:α}(h:x=some a):ob x f=f a:=by rw[h];rfl
theorem Zq1{x:Option (α×β)}{f:α→β→Option γ}{a:α}{b:β}(h:x=some (a,b)):bd x f=f a b:=by rw[h];rfl
theorem Zsf{b:Bool}{x:Option α}(h:b=true):gd b x=x:=by rw[h];rfl
theorem Mo{x:Option α}{f:α→β}{r:β}(h:x.map f=some r){P:Prop}(k:∀a,x=some a→f a=r→P):P:=by
 cases x with
 |none=>exact nn h
 |some a=>exact k a rfl (sj h)
theorem Ro{x:Option α}(h:x.isSome=true){P:Prop}(k:∀a,x=some a→P):P:=by
 cases x with
 |none=>exact nf h
 |some a=>exact k a rfl
end
theorem a2{a b:Bool}(h:(a&&b)=true):a=true∧b=true:=by
 cases a with
 |false=>exact nf h
 |true=>exact⟨rfl,h⟩
theorem Yp{a b:Bool}(h:(a&&b)=true){P:Prop}(k:a=true→b=true→P):P:=k (a2 h).1 (a2 h).2
theorem Xy{a b c:Bool}(h:(a&&(b&&c))=true){P:Prop}(k:a=true→b=true→c=true→P):P:=Yp h fun h1 h=>k h1 (a2 h).1 (a2 h).2
theorem T1{a b c d:Bool}(h:(a&&(b&&(c&&d)))=true){P:Prop}(k:a=true→b=true→c=true→d=true→P):P:=Yp h fun h1 h=>Xy h (k h1)
theorem T2{a b c d e:Bool}(h:(a&&(b&&(c&&(d&&e))))=true){P:Prop}(k:a=true→b=true→c=true→d=true→e=true→P):P:=Yp h fun h1 h=>T1 h (k h1)
theorem Us{α:Type}{a b:α}{l m:List α}(h:a=b)(k:l=m):a::l=b::m:=by rw[h,k]
set_option genInjectivity true
inductive Lc where
 |id (n:Nat) |idd (n:Nat) |w |objs |arrs |vers |obj (k:Int) |arr (k:Int)
 deriving DecidableEq
inductive V where
 |dat (d:D)
 |loc (l:Lc)
set_option genInjectivity false
inductive O where
 |dl (rev:List D)
 |rev (rev:List V)
 |list (xs:List V)
 |dict (es:List (D×V))
 |inst (c:Nat) (vs:List V)
 |dead
structure Wd where
 sid:Nat
 pair:D
 nobj:Int
 obj:List (Int×List (Int×Int))
 narr:Int
 arr:List (Int×List Int)
 vers:List (Int×Int)
 bnd:Nat
structure St where
 base:Nat
 next:Nat
 tmp:List O
 w:Option Wd
inductive WK |store |objs |arrays |versions |pair
 deriving DecidableEq
inductive BI |len |range |tuple |str |isTup
 deriving DecidableEq
inductive CE where
 |c (i:Int) |var |mod (m:Int)
inductive IE where
 |c (d:D)
 |nm (j:Nat)
 |gl (j g:Nat)
 |tup (es:List IE)
 |lst (es:List IE)
 |dct0
 |bin (op:Operator) (a b:IE)
 |not (a:IE)
 |neg (a:IE)
 |cmp (op:CmpOp) (a b:IE)
 |bop (op:BoolOp) (es:List IE)
 |ite (t a b:IE)
 |attr (e:IE) (a:Nat)
 |sub (e i:IE)
 |wk (e:IE) (k:WK)
 |slcF (e lo:IE)
 |slcT (e hi:IE)
 |call (j f:Nat) (args:List IE)
 |mk (j c:Nat) (args:List IE)
 |bi (j:Nat) (b:BI) (a:IE)
 |app (e a:IE)
 |pop (e:IE)
 |get (e k d:IE)
 |meth (e:IE) (a f:Nat) (args:List IE)
 |comp (ce:CE) (x:Str) (it:IE)
inductive IS where
 |asg (j:Nat) (e:IE)
 |asg2 (j k:Nat) (e:IE)
 |setA (o:IE) (a:Nat) (e:IE)
 |setS (o i e:IE)
 |setW (o:IE) (k:WK) (e:IE)
 |augN (j:Nat) (e:IE)
 |augS (o i e:IE)
 |ex (e:IE)
 |wArr (j:Nat) (e:IE)
 |wArr2 (j:Nat) (xs e:IE)
 |wObj (j:Nat) (ks:List (Nat×Nat)) (vs:List IE)
 |ife (t:IE) (b o:List IS)
 |for1 (j:Nat) (it:IE) (b:List IS)
 |for2 (j k:Nat) (it:IE) (b:List IS)
 |ret (e:IE)
 |ret0
 |raise (j:Nat) (args:List IE)
 |pass
def Zj(old:Nat→Option O)(σ:St)(n:Nat):Option O:=
 match Nat.blt n σ.base with
 |true=>old n
 |false=>match Nat.blt n σ.next with
  |true=>σ.tmp[σ.next - 1 - n]?
  |false=>none
def Z7{α:Type}:List α→Nat→α→List α
 | [],_,_=>[]
 |_::l,0,y=>y::l
 |x::l,n + 1,y=>x::Z7 l n y
def X3(σ:St)(n:Nat)(o:O):Option St:=
 match Nat.blt n σ.base with
 |true=>none
 |false=>match Nat.blt n σ.next with
  |true=>some {σ with tmp:=Z7 σ.tmp (σ.next - 1 - n) o}
  |false=>none
def Zy(σ:St)(o:O):V×St:=(.loc (.id σ.next),{σ with next:=σ.next + 1,tmp:=o::σ.tmp})
section
variable{α:Type}
noncomputable def dZ (d:D) (f:Int→Option α):Option α:=match d with
 |.int i=>f i
 |_=>none
noncomputable def dT (d:D) (f:List D→Option α):Option α:=match d with
 |.tuple i=>f i
 |_=>none
noncomputable def dL (d:D) (f:List D→Option α):Option α:=match d with
 |.list i=>f i
 |_=>none
noncomputable def dS (d:D) (f:Str→Option α):Option α:=match d with
 |.str i=>f i
 |_=>none
noncomputable def dB (d:D) (f:Bool→Option α):Option α:=match d with
 |.bool i=>f i
 |_=>none
noncomputable def dN (d:D) (f:Option α):Option α:=match d with
 |.none=>f
 |_=>none
noncomputable def vD (v:V) (f:D→Option α):Option α:=V.rec f (fun _=>none) v
noncomputable def vL (v:V) (f:Lc→Option α):Option α:=V.rec (fun _=>none) f v
noncomputable def lI (l:Lc) (f:Nat→Option α):Option α:=match l with
 |.id i=>f i
 |_=>none
noncomputable def lW (l:Lc) (f:Option α):Option α:=match l with
 |.w=>f
 |_=>none
noncomputable def lVs (l:Lc) (f:Option α):Option α:=match l with
 |.vers=>f
 |_=>none
variable{r:α}
@[elab_as_elim] theorem Vf {d:D} {f:Int→Option α} (h:dZ d f=some r) {M:D→Prop} (k:∀i,f i=some r→M (.int i)):M d:=by
  cases d with
  |int i=>exact k i h
  |_=>exact nn h
@[elab_as_elim] theorem Mf {d:D} {f:List D→Option α} (h:dT d f=some r) {M:D→Prop} (k:∀i,f i=some r→M (.tuple i)):M d:=by
  cases d with
  |tuple i=>exact k i h
  |_=>exact nn h
@[elab_as_elim] theorem Zq4 {d:D} {f:List D→Option α} (h:dL d f=some r) {M:D→Prop} (k:∀i,f i=some r→M (.list i)):M d:=by
  cases d with
  |list i=>exact k i h
  |_=>exact nn h
@[elab_as_elim] theorem Zrq {d:D} {f:Str→Option α} (h:dS d f=some r) {M:D→Prop} (k:∀i,f i=some r→M (.str i)):M d:=by
  cases d with
  |str i=>exact k i h
  |_=>exact nn h
@[elab_as_elim] theorem Ya2 {d:D} {f:Bool→Option α} (h:dB d f=some r) {M:D→Prop} (k:∀i,f i=some r→M (.bool i)):M d:=by
  cases d with
  |bool i=>exact k i h
  |_=>exact nn h
@[elab_as_elim] theorem Zej {d:D} {f:Option α} (h:dN d f=some r) {M:D→Prop} (k:f=some r→M .none):M d:=by
  cases d with
  |none=>exact k h
  |_=>exact nn h
@[elab_as_elim] theorem Rh {v:V} {f:D→Option α} (h:vD v f=some r) {M:V→Prop} (k:∀d,f d=some r→M (.dat d)):M v:=by
  cases v with
  |dat d=>exact k d h
  |loc _=>exact nn h
@[elab_as_elim] theorem Ew {v:V} {f:Lc→Option α} (h:vL v f=some r) {M:V→Prop} (k:∀d,f d=some r→M (.loc d)):M v:=by
  cases v with
  |loc d=>exact k d h
  |dat _=>exact nn h
@[elab_as_elim] theorem Zb3 {l:Lc} {f:Nat→Option α} (h:lI l f=some r) {M:Lc→Prop} (k:∀i,f i=some r→M (.id i)):M l:=by
  cases l with
  |id i=>exact k i h
  |_=>exact nn h
@[elab_as_elim] theorem Zgn {l:Lc} {f:Option α} (h:lW l f=some r) {M:Lc→Prop} (k:f=some r→M .w):M l:=by
  cases l with
  |w=>exact k h
  |_=>exact nn h
@[elab_as_elim] theorem Zsu {l:Lc} {f:Option α} (h:lVs l f=some r) {M:Lc→Prop} (k:f=some r→M .vers):M l:=by
  cases l with
  |vers=>exact k h
  |_=>exact nn h
noncomputable def vZ (v:V) (f:Int→Option α):Option α:=vD v fun d=>dZ d f
noncomputable def vI (v:V) (f:Nat→Option α):Option α:=vL v fun l=>lI l f
@[elab_as_elim] theorem Q6 {v:V} {f:Int→Option α} (h:vZ v f=some r) {M:V→Prop} (k:∀i,f i=some r→M (.dat (.int i))):M v:=Rh h fun d h=>Vf (M:=fun d=>M (.dat d)) h k
@[elab_as_elim] theorem Zpo {v:V} {f:Nat→Option α} (h:vI v f=some r) {M:V→Prop} (k:∀i,f i=some r→M (.loc (.id i))):M v:=Ew h fun d h=>Zb3 (M:=fun d=>M (.loc d)) h k
noncomputable def bD (x:Option (V×St)) (f:D→St→Option α):Option α:=bd x fun v σ=>vD v fun d=>f d σ
noncomputable def bZ (x:Option (V×St)) (f:Int→St→Option α):Option α:=bd x fun v σ=>vZ v fun d=>f d σ
noncomputable def bI (x:Option (V×St)) (f:Nat→St→Option α):Option α:=bd x fun v σ=>vI v fun d=>f d σ
noncomputable def bW (x:Option (V×St)) (f:St→Option α):Option α:=bd x fun v σ=>vL v fun l=>lW l (f σ)
noncomputable def bL (x:Option (V×St)) (f:List D→St→Option α):Option α:=bD x fun d σ=>dL d fun l=>f l σ
variable{x:Option (V×St)}{P:Prop}
theorem Zaw{f:D→St→Option α}(h:bD x f=some r)(k:∀d σ,x=some (.dat d,σ)→f d σ=some r→P):P:=
 Yk h fun v σ e h=>Rh (M:=fun v=>x=some (v,σ)→P) h (fun d h e=>k d σ e h) e
theorem Fa{f:Int→St→Option α}(h:bZ x f=some r)(k:∀d σ,x=some (.dat (.int d),σ)→f d σ=some r→P):P:=
 Yk h fun v σ e h=>Q6 (M:=fun v=>x=some (v,σ)→P) h (fun d h e=>k d σ e h) e
theorem Zax{f:Nat→St→Option α}(h:bI x f=some r)(k:∀d σ,x=some (.loc (.id d),σ)→f d σ=some r→P):P:=
 Yk h fun v σ e h=>Zpo (M:=fun v=>x=some (v,σ)→P) h (fun d h e=>k d σ e h) e
theorem Yhd{f:St→Option α}(h:bW x f=some r)(k:∀σ,x=some (.loc .w,σ)→f σ=some r→P):P:=
 Yk h fun v σ e h=>Ew (M:=fun v=>x=some (v,σ)→P) h (fun d h=>Zgn (M:=fun d=>x=some (.loc d,σ)→P) h fun h e=>k σ e h) e
theorem Zrf{f:List D→St→Option α}(h:bL x f=some r)(k:∀d σ,x=some (.dat (.list d),σ)→f d σ=some r→P):P:=
 Zaw h fun v σ e h=>Zq4 (M:=fun v=>x=some (.dat v,σ)→P) h (fun d h e=>k d σ e h) e
noncomputable def Pv (o:Option O) (f:Nat→List V→Option α):Option α:=ob o fun o=>match o with
 |.inst c vs=>f c vs
 |_=>none
theorem Td{o:Option O}{f:Nat→List V→Option α}(h:Pv o f=some r)(k:∀c vs,o=some (.inst c vs)→f c vs=some r→P):P:=Za h fun o e h=>by
 cases o with
 |inst c vs=>exact k c vs e h
 |_=>exact nn h
noncomputable def B6 (o:Option O) (f:List (D×V)→Option α):Option α:=ob o fun o=>match o with
 |.dict vs=>f vs
 |_=>none
theorem Jo{o:Option O}{f:List (D×V)→Option α}(h:B6 o f=some r)(k:∀vs,o=some (.dict vs)→f vs=some r→P):P:=Za h fun o e h=>by
 cases o with
 |dict vs=>exact k vs e h
 |_=>exact nn h
noncomputable def oDl (o:Option O) (f:List D→Option α):Option α:=ob o fun o=>match o with
 |.dl vs=>f vs
 |_=>none
theorem Zmt{o:Option O}{f:List D→Option α}(h:oDl o f=some r)(k:∀vs,o=some (.dl vs)→f vs=some r→P):P:=Za h fun o e h=>by
 cases o with
 |dl vs=>exact k vs e h
 |_=>exact nn h
noncomputable def Zmw (o:Option O) (f:List V→Option α):Option α:=ob o fun o=>match o with
 |.rev vs=>f vs
 |_=>none
theorem Ni{o:Option O}{f:List V→Option α}(h:Zmw o f=some r)(k:∀vs,o=some (.rev vs)→f vs=some r→P):P:=Za h fun o e h=>by
 cases o with
 |rev vs=>exact k vs e h
 |_=>exact nn h
end
inductive Fact where
 |ar (op:Nat) (a b c:Int)
 |eq (a b:Int) (t:Bool)
 |lt (a b:Int) (t:Bool)
def Yo(i:Int):Bool:=match i with
 |.ofNat n=>Nat.blt n 604462909807314587353088
 |.negSucc n=>Nat.blt n 604462909807314587353088
def hiC(i:Int):Int:=(i + 604462909807314587353088) / 1208925819614629174706176
def eqB(a b:Int):Bool:=W.Z.eqB a b
def ltB(a b:Int):Bool:=W.Z.ltB a b
noncomputable def Tt (a b:Int):Option Int:=gd (Yo a || Yo b) (gd (eqB (hiC (a + b)) (hiC a + hiC b)) (some (a + b)))
noncomputable def G3 (a b:Int):Option Int:=bp (Yo b) (gd (eqB (hiC (a - b)) (hiC a)) (some (a - b))) (gd (eqB (hiC a) (hiC b)) (gd (Yo (a - b)) (some (a - b))))
noncomputable def fEq (f:Fact) (a b:Int) (k:Option Bool):Option Bool:=match f with
 |.eq x y t=>bp (eqB x a&&eqB y b || eqB x b&&eqB y a) (some t) k
 |_=>k
noncomputable def fLt (f:Fact) (a b:Int) (k:Option Bool):Option Bool:=match f with
 |.lt x y t=>bp (eqB x a&&eqB y b) (some t) k
 |_=>k
noncomputable def fAr (f:Fact) (op:Nat) (a b:Int) (k:Option Int):Option Int:=match f with
 |.ar o x y c=>bp (Nat.beq o op&&(eqB x a&&eqB y b)) (some c) k
 |_=>k
noncomputable def Fj (l:List Fact) (a b:Int):Option Bool:=List.rec none (fun f _ k=>fEq f a b k) l
noncomputable def Fk (l:List Fact) (a b:Int):Option Bool:=List.rec none (fun f _ k=>fLt f a b k) l
noncomputable def Ow (l:List Fact) (op:Nat) (a b:Int):Option Int:=List.rec none (fun f _ k=>fAr f op a b k) l
noncomputable def eqC (Φ:List Fact) (a b:Int):Option Bool:=bp (eqB (hiC a) (hiC b)) (some (eqB a b)) (Fj Φ a b)
noncomputable def ltC (Φ:List Fact) (a b:Int):Option Bool:=bp (eqB (hiC a) (hiC b)) (some (ltB a b)) (Fk Φ a b)
structure Tb where
 fx:List Fact
 old:Nat→Option O
 attrs:Nat→List Nat
 gval:Nat→Option V
 init:Nat→Nat
 meth:Nat→Nat→Option Nat
noncomputable def Jy (l:List Nat) (a:Nat) (k:Nat):Option Nat:=List.rec (fun _=>none) (fun x _ ih k=>bp (Nat.beq x a) (some k) (ih (k + 1))) l k
noncomputable def datas? (l:List V):Option (List D):=List.rec (some []) (fun v _ ih=>vD v fun d=>ob ih fun ds=>some (d::ds)) l
noncomputable def ints? (l:List D):Option (List Int):=List.rec (some []) (fun v _ ih=>dZ v fun d=>ob ih fun ds=>some (d::ds)) l
def small(i:Int):Bool:=match i with
 |.ofNat n=>Nat.blt n 4611686018427387904
 |.negSucc n=>Nat.blt n 4611686018427387904
mutual
def Q4:D→Bool
 |.int i=>Yo i
 |.tuple xs=>Y8 xs
 |.list xs=>Y8 xs
 |.dict _=>false
 |_=>true
def Y8:List D→Bool
 | []=>true
 |d::r=>Q4 d&&Y8 r
end
noncomputable def Q5 (o:Option Bool):Option Bool:=ob o fun b=>some (!b)
noncomputable def Zsa (d:D) (f:List D→Option Bool):Option Bool:=match d with
 |.tuple ys=>f ys
 |.int _=>some false
 |_=>none
noncomputable def Zav (a b:Option Bool):Option Bool:=match a with
 |some true=>b
 |some false=>some false
 |none=>match b with
  |some false=>some false
  |_=>none
mutual
noncomputable def eqD (Φ:List Fact):D→D→Option Bool
 |.none,y=>dN y (some true)
 |.bool a,y=>dB y fun b=>some (a == b)
 |.int a,y=>(match y with
  |.int b=>eqC Φ a b
  |.tuple _=>some false
  |_=>none)
 |.str a,y=>dS y fun b=>some (decide (a=b))
 |.tuple xs,y=>Zsa y fun ys=>Mh Φ xs ys
 |.list xs,y=>dL y fun ys=>Mh Φ xs ys
 |.dict _,_=>none
noncomputable def Mh (Φ:List Fact):List D→List D→Option Bool
 | [],l=>(match l with
   | []=>some true
   |_::_=>some false)
 |x::xs,l=>(match l with
  | []=>some false
  |y::ys=>Zav (eqD Φ x y) (Mh Φ xs ys))
end
def Ws(n:Nat):Bool:=Nat.ble n 100000
noncomputable def M3 (v:V):Option Bool:=vD v fun d=>dB d some
def idx{α:Type}(l:List α)(i:Int):Option α:=match i with
 |.ofNat n=>l[n]?
 |.negSucc _=>none
noncomputable def lz (i:Int):Option Int:=gd (Yo i) (some i)
noncomputable def Zay (Φ:List Fact) (op:Operator) (a b:Int):Option Int:=match op with
 |.Add=>Tt a b
 |.Sub=>G3 a b
 |.Mult=>bp (small a&&small b) (lz (a * b)) (Ow Φ 2 a b)
 |.FloorDiv=>bp (small a&&small b) (bp (eqB b 0) none (lz (a.fdiv b))) (Ow Φ 0 a b)
 |.Mod=>bp (small a&&small b) (bp (eqB b 0) none (lz (a.fmod b))) (Ow Φ 1 a b)
 |.Pow=>gd (small a) (match b with
  |.ofNat n=>gd (Nat.blt n 65&&Nat.blt a.natAbs 100) (lz (a ^ n))
  |.negSucc _=>none)
 |.BitAnd=>gd (small a&&small b) (lz (Builtin.bitAnd a b))
 |_=>none
def leN(n:Int)(k:Nat):Bool:=match n with
 |.ofNat m=>Nat.ble m k
 |.negSucc _=>false
def rep{α:Type}(n:Int)(l:List α):List α:=(List.replicate n.toNat l).flatten
def Cu(op:Operator):Bool:=match op with
 |.Add=>true
 |_=>false
def Cy(op:Operator):Bool:=match op with
 |.Mult=>true
 |_=>false
def Kk(l:List D):Bool:=match l with
 | []=>false
 |d::r=>(match d with
  |.none=>r.isEmpty
  |_=>false)
noncomputable def cat (op:Operator) {α:Type} (x y:List α) (f:List α→D) (σ:St):Option (V×St):=gd (Cu op&&Ws (x.length + y.length)) (some (.dat (f (x++y)),σ))
noncomputable def Ya0 (op:Operator) (x:List D) (b:D) (σ:St):Option (V×St):=match b with
 |.list y=>cat op x y .list σ
 |.int n=>gd (Cy op&&(leN n 1000&&Kk x)) (some (Zy σ (.list (rep n [.dat .none]))))
 |_=>none
noncomputable def Ya1 (op:Operator) (x:List D) (b:D) (σ:St):Option (V×St):=match b with
 |.tuple y=>cat op x y .tuple σ
 |.int n=>gd (Cy op&&(leN n 1000&&Nat.ble x.length 100)) (some (.dat (.tuple (rep n x)),σ))
 |_=>none
noncomputable def Yhg (Φ:List Fact) (op:Operator) (a b:D) (σ:St):Option (V×St):=match a with
 |.int x=>dZ b fun y=>ob (Zay Φ op x y) fun i=>some (.dat (.int i),σ)
 |.list x=>Ya0 op x b σ
 |.tuple x=>Ya1 op x b σ
 |.str x=>dS b fun y=>gd (Cu op&&Ws (x.length + y.length)) (some (.dat (.str (x++y)),σ))
 |_=>none
noncomputable def Zrk (Φ:List Fact) (op:Operator) (a b:V) (σ:St):Option (V×St):=vD a fun x=>vD b fun y=>Yhg Φ op x y σ
noncomputable def Zq2 (Φ:List Fact) (op:CmpOp) (a b:Int):Option Bool:=match op with
 |.Eq=>eqC Φ a b
 |.NotEq=>Q5 (eqC Φ a b)
 |.Lt=>ltC Φ a b
 |.LtE=>Q5 (ltC Φ b a)
 |.Gt=>ltC Φ b a
 |.GtE=>Q5 (ltC Φ a b)
 |_=>none
noncomputable def Zqf (l:List (D×V)) (i:Int):Option Bool:=List.rec (some false) (fun p _ ih=>dZ p.1 fun k=>ob ih fun b=>some (eqB k i || b)) l
set_option genInjectivity true
inductive NK where
 |i (n:Int)
 |t (l:List Int)
 deriving DecidableEq
set_option genInjectivity false
noncomputable def dNK (d:D):Option NK:=match d with
 |.int n=>some (.i n)
 |.tuple xs=>ob (ints? xs) fun l=>some (.t l)
 |_=>none
noncomputable def Pe (l:List D):Option (List NK):=List.rec (some []) (fun d _ ih=>ob (dNK d) fun k=>ob ih fun l=>some (k::l)) l
noncomputable def C8 (d:D):Bool:=match d with
 |.int i=>Yo i
 |.tuple xs=>Y8 xs&&(Pe xs).isSome
 |_=>false
noncomputable def eqT (x y:List D):Bool:=match Mh [] x y with
 |some b=>b
 |none=>false
noncomputable def W8 (k i:D):Option Bool:=match k with
 |.int k=>dZ i fun i=>some (eqB k i)
 |.tuple k=>dT i fun i=>some (eqT k i)
 |_=>none
noncomputable def getD? (l:List (D×V)) (i:D):Option (Option V):=List.rec (some none) (fun p _ ih=>ob (W8 p.1 i) fun b=>bp b (some (some p.2)) ih) l
noncomputable def F8 (i:D) (v:V):Option (List (D×V)):=match i with
 |.int i=>some [(.int i,v)]
 |.tuple i=>some [(.tuple i,v)]
 |_=>none
noncomputable def putD? (l:List (D×V)) (i:D) (v:V):Option (List (D×V)):=List.rec (F8 i v) (fun p r ih=>ob (W8 p.1 i) fun b=>bp b (some ((p.1,v)::r)) (ob ih fun l=>some (p::l))) l
noncomputable def Zc {β:Type} (l:List (Int×β)) (i:Int):Option β:=List.rec none (fun p _ ih=>bp (eqB p.1 i) (some p.2) ih) l
noncomputable def Sk {β:Type} (l:List (Int×β)) (i:Int) (v:β):Option (List (Int×β)):=List.rec none (fun p r ih=>bp (eqB p.1 i) (some ((p.1,v)::r)) (ob ih fun l=>some (p::l))) l
noncomputable def Iz (Φ:List Fact) (x:D) (l:List D):Option Bool:=List.rec (some false) (fun y _ ih=>ob (eqD Φ y x) fun a=>ob ih fun b=>some (a || b)) l
def shp(d:D):Bool:=SeqAt.shaped d
noncomputable def Zro (T:Tb) (op:CmpOp) (x y:D):Option Bool:=match op with
 |.Eq=>gd (shp x&&shp y) (eqD T.fx x y)
 |.NotEq=>gd (shp x&&shp y) (Q5 (eqD T.fx x y))
 |.NotIn=>dT y fun ys=>gd (shp x&&shp (.tuple ys)) (Q5 (Iz T.fx x ys))
 |.Is=>dN y (dN x (some true))
 |_=>none
noncomputable def Zrp (T:Tb) (op:CmpOp) (x y:D):Option Bool:=match x with
 |.int a=>(match y with
  |.int b=>Zq2 T.fx op a b
  |_=>Zro T op x y)
 |_=>Zro T op x y
noncomputable def Zed (T:Tb) (op:CmpOp) (x:D) (o:Option O):Option Bool:=match op with
 |.In=>B6 o fun es=>dZ x fun i=>gd (Yo i) (Zqf es i)
 |.NotIn=>Zmw o fun ys=>ob (datas? ys.reverse) fun ds=>gd (shp x&&shp (.list ds)) (Q5 (Iz T.fx x ds))
 |_=>none
noncomputable def Yhq (op:CmpOp):Bool:=match op with
 |.Is=>true
 |_=>false
noncomputable def Zq3 (T:Tb) (op:CmpOp) (a b:V) (σ:St):Option Bool:=match a with
 |.dat x=>(match b with
  |.dat y=>Zrp T op x y
  |.loc l=>lI l fun n=>Zed T op x (Zj T.old σ n))
 |.loc _=>vD b fun y=>dN y (gd (Yhq op) (some false))
abbrev Res:=Option (V×St)
noncomputable def F6 {α:Type} (l:List α):Option Int:=gd (Ws l.length) (some l.length)
noncomputable def Yht (o:O):Option Int:=match o with
 |.dl r=>F6 r
 |.rev r=>F6 r
 |.list r=>F6 r
 |_=>none
noncomputable def Zb4 (T:Tb) (σ:St) (v:V):Option Int:=match v with
 |.dat d=>(match d with
  |.list xs=>F6 xs
  |.tuple xs=>F6 xs
  |_=>none)
 |.loc l=>(match l with
  |.id n=>ob (Zj T.old σ n) Yht
  |.objs=>ob σ.w fun w=>some w.nobj
  |.arrs=>ob σ.w fun w=>some w.narr
  |.arr k=>ob σ.w fun w=>ob (Zc w.arr k) F6
  |_=>none)
noncomputable def iz (x:Option Int):Option V:=ob x fun i=>some (.dat (.int i))
noncomputable def Zz9 (o:O) (d:D):Option V:=dZ d fun k=>match o with
 |.dl r=>gd (small k) (ob (idx r.reverse k) fun d=>some (.dat d))
 |.rev r=>gd (small k) (idx r.reverse k)
 |.list xs=>gd (small k) (idx xs k)
 |.dict es=>gd (Yo k) (ob (getD? es (.int k)) fun v=>v)
 |_=>none
noncomputable def Yh1 (T:Tb) (σ:St) (l:Lc) (d:D):Option V:=match l with
 |.id n=>ob (Zj T.old σ n) fun o=>Zz9 o d
 |.objs=>dZ d fun k=>ob σ.w fun w=>ob (Zc w.obj k) fun _=>some (.loc (.obj k))
 |.arrs=>dZ d fun k=>ob σ.w fun w=>ob (Zc w.arr k) fun _=>some (.loc (.arr k))
 |.vers=>dZ d fun k=>ob σ.w fun w=>iz (Zc w.vers k)
 |.obj m=>dZ d fun k=>ob σ.w fun w=>ob (Zc w.obj m) fun fs=>gd (Yo k) (iz (Zc fs k))
 |.arr m=>dZ d fun k=>ob σ.w fun w=>ob (Zc w.arr m) fun xs=>gd (small k) (iz (idx xs k))
 |_=>none
noncomputable def Yh0 (a b:D):Option V:=match a with
 |.list xs=>dZ b fun k=>gd (small k) (ob (idx xs k) fun d=>some (.dat d))
 |.tuple xs=>dZ b fun k=>gd (small k) (ob (idx xs k) fun d=>some (.dat d))
 |_=>none
noncomputable def Qw (T:Tb) (σ:St) (a b:V):Option V:=vD b fun d=>match a with
 |.dat x=>Yh0 x d
 |.loc l=>Yh1 T σ l d
noncomputable def putAt {α:Type} (l:List α) (k:Int) (x:α):Option (List α):=match k with
 |.ofNat n=>gd (Nat.blt n l.length) (some (Z7 l n x))
 |.negSucc _=>none
noncomputable def Ygx (σ:St) (n:Nat) (v:V) (d:D) (o:O):Option St:=match o with
 |.dl r=>dZ d fun k=>gd (small k) (vD v fun x=>ob (putAt r.reverse k x) fun l=>X3 σ n (.dl l.reverse))
 |.list xs=>dZ d fun k=>gd (small k) (ob (putAt xs k v) fun l=>X3 σ n (.list l))
 |.dict es=>gd (C8 d) (ob (putD? es d v) fun l=>gd (Ws l.length) (X3 σ n (.dict l)))
 |_=>none
noncomputable def Zow (σ:St) (w:Wd) (k i:Int):Option St:=gd (Ws w.bnd) (Option.rec (ob (Zc w.obj k) fun _=>some {σ with w:=some {w with vers:=(k,i)::w.vers,bnd:=w.bnd + 1}})
 (fun l=>some {σ with w:=some {w with vers:=l,bnd:=w.bnd + 1}}) (Sk w.vers k i))
noncomputable def Zov (σ:St) (w:Wd) (m k i:Int):Option St:=ob (Zc w.obj m) fun fs=>ob (Sk fs k i) fun fs'=>ob (Sk w.obj m fs') fun l=>some {σ with w:=some {w with obj:=l}}
noncomputable def Zou (σ:St) (w:Wd) (m k i:Int):Option St:=ob (Zc w.arr m) fun xs=>gd (small k) (ob (putAt xs k i) fun xs'=>ob (Sk w.arr m xs') fun l=>some {σ with w:=some {w with arr:=l}})
noncomputable def En (T:Tb) (σ:St) (v a b:V):Option St:=vL a fun l=>vD b fun d=>match l with
 |.id n=>ob (Zj T.old σ n) fun o=>Ygx σ n v d o
 |.vers=>dZ d fun k=>vZ v fun i=>ob σ.w fun w=>Zow σ w k i
 |.obj m=>dZ d fun k=>vZ v fun i=>ob σ.w fun w=>Zov σ w m k i
 |.arr m=>dZ d fun k=>vZ v fun i=>ob σ.w fun w=>Zou σ w m k i
 |_=>none
noncomputable def ceF (ce:CE) (d:D):Option D:=match ce with
 |.c i=>some (.int i)
 |.var=>some d
 |.mod _=>none
noncomputable def ceL (ce:CE) (l:List D):Option (List D):=List.rec (some []) (fun d _ ih=>ob (ceF ce d) fun x=>ob ih fun l=>some (x::l)) l
def Xc(n:Int):List D:=(List.range n.toNat).map fun(i:Nat)=>PyData.int i
noncomputable def O4 (σ:St) (v:V):Option (List D):=match v with
 |.dat d=>(match d with
  |.list xs=>some xs
  |.tuple xs=>some xs
  |_=>none)
 |.loc l=>(match l with
  |.arr k=>ob σ.w fun w=>ob (Zc w.arr k) fun xs=>some (xs.map PyData.int)
  |_=>none)
def Ta(md:Nat)(ds:List D)(σ:St):V×St:=match md with
 |1=>Zy σ (.dl ds.reverse)
 |_=>(.dat (.list ds),σ)
def Jf(md:Nat)(σ:St):V×St:=match md with
 |0=>(.dat (.list []),σ)
 |1=>Zy σ (.dl [])
 |_=>Zy σ (.rev [])
noncomputable def frz (T:Tb) (v:V) (ih:St→Option (List D×St)) (σ:St):Option (List D×St):=V.rec (fun d=>bd (ih σ) fun ds σ'=>some (d::ds,σ')) (fun l=>lI l fun n=>oDl (Zj T.old σ n) fun l=>ob (X3 σ n .dead) fun σ1=>bd (ih σ1) fun ds σ'=>some (.list l.reverse::ds,σ')) v
noncomputable def Vi (T:Tb) (l:List V):St→Option (List D×St):=List.rec (fun σ=>some ([],σ)) (fun v _ ih=>frz T v ih) l
noncomputable def Yh2 (T:Tb) (v:V) (σ:St):Option V:=match v with
 |.dat d=>(match d with
  |.list xs=>gd (Ws xs.length) (some (.dat (.tuple xs)))
  |.tuple xs=>some (.dat (.tuple xs))
  |_=>none)
 |.loc l=>lI l fun n=>Zmw (Zj T.old σ n) fun r=>ob (datas? r.reverse) fun ds=>gd (Ws ds.length) (some (.dat (.tuple ds)))
noncomputable def Fv (d:D):Option V:=match d with
 |.tuple _=>some (.dat (.bool true))
 |.int _=>some (.dat (.bool false))
 |_=>none
noncomputable def biV (T:Tb) (b:BI) (v:V) (σ:St):Option V:=match b with
 |.len=>iz (Zb4 T σ v)
 |.range=>none
 |.tuple=>Yh2 T v σ
 |.str=>vZ v fun i=>gd (leN i 100000) (some (.dat (.str (Str.ofString (toString i)))))
 |.isTup=>vD v Fv
abbrev Zd:=List (Option V)
inductive Fl where
 |next
 |ret (v:V)
abbrev Wz:=Option (Fl×Zd×St)
abbrev Clo:=Zd→St→Res
abbrev Q3:=Zd→St→Option (List V×St)
abbrev Ye:=Zd→St→Wz
abbrev KE:=Clo×Option Clo
section
variable(T:Tb)(cf:Nat→List V→St→Res)(md:Nat)
def eC(d:D):Clo:=fun _ σ=>some (.dat d,σ)
noncomputable def eNm (j:Nat):Clo:=fun lo σ=>ob lo[j]? fun o=>ob o fun v=>some (v,σ)
noncomputable def eGl (g:Nat):Clo:=fun _ σ=>ob (T.gval g) fun v=>some (v,σ)
noncomputable def Zqc (es:Q3):Clo:=fun lo σ=>bd (es lo σ) fun vs σ1=>bd (Vi T vs σ1) fun ds σ2=>gd (Ws ds.length) (some (.dat (.tuple ds),σ2))
noncomputable def Yhu (vs:List V) (σ:St):Res:=match vs with
 | []=>some (Jf md σ)
 |v::r=>ob (datas? (v::r)) fun ds=>gd (Ws (v::r).length) (some (.dat (.list ds),σ))
noncomputable def Zer (es:Q3):Clo:=fun lo σ=>bd (es lo σ) (Yhu md)
def Dx:Clo:=fun _ σ=>some (Zy σ (.dict []))
noncomputable def Zq6 (op:Operator) (a b:Clo):Clo:=fun lo σ=>bd (a lo σ) fun x σ1=>bd (b lo σ1) fun y σ2=>Zrk T.fx op x y σ2
noncomputable def Zs7 (a:Clo):Clo:=fun lo σ=>bd (a lo σ) fun v σ1=>ob (M3 v) fun b=>some (.dat (.bool !b),σ1)
noncomputable def Zs6 (a:Clo):Clo:=fun lo σ=>bZ (a lo σ) fun i σ1=>gd (small i) (some (.dat (.int (-i)),σ1))
noncomputable def Zq7 (op:CmpOp) (a b:Clo):Clo:=fun lo σ=>bd (a lo σ) fun x σ1=>bd (b lo σ1) fun y σ2=>ob (Zq3 T op x y σ2) fun t=>some (.dat (.bool t),σ2)
noncomputable def Zq8 (t a b:Clo):Clo:=fun lo σ=>bd (t lo σ) fun v σ1=>ob (M3 v) fun c=>bp c (a lo σ1) (b lo σ1)
noncomputable def Ha (e:Clo) (a:Nat):Clo:=fun lo σ=>bI (e lo σ) fun n σ1=>Pv (Zj T.old σ1 n) fun c vs=>ob (Jy (T.attrs c) a 0) fun p=>ob vs[p]? fun v=>some (v,σ1)
noncomputable def Zqb (e i:Clo):Clo:=fun lo σ=>bd (e lo σ) fun x σ1=>bd (i lo σ1) fun y σ2=>ob (Qw T σ2 x y) fun v=>some (v,σ2)
def wkV(w:Wd)(k:WK):V:=match k with
 |.store=> .loc (.id w.sid)
 |.objs=> .loc .objs
 |.arrays=> .loc .arrs
 |.versions=> .loc .vers
 |.pair=> .dat w.pair
noncomputable def eWk (e:Clo) (k:WK):Clo:=fun lo σ=>bW (e lo σ) fun σ1=>ob σ1.w fun w=>some (wkV w k,σ1)
noncomputable def Zaz (f:Nat→List D→List D) (e a:Clo):Clo:=fun lo σ=>bL (e lo σ) fun xs σ1=>bZ (a lo σ1) fun i σ2=>gd (leN i xs.length&&Ws xs.length) (some (.dat (.list (f i.toNat xs)),σ2))
noncomputable def Hb (f:Nat) (args:Q3):Clo:=fun lo σ=>bd (args lo σ) fun vs σ1=>cf f vs σ1
noncomputable def eMk (c:Nat) (args:Q3):Clo:=fun lo σ=>bd (args lo σ) fun vs σ1=>bD (cf (T.init c) ((Zy σ1 (.inst c [])).1::vs) (Zy σ1 (.inst c [])).2) fun d σ3=>dN d (some ((Zy σ1 (.inst c [])).1,σ3))
noncomputable def eBi (b:BI) (a:Clo):Clo:=fun lo σ=>bd (a lo σ) fun v σ1=>ob (biV T b v σ1) fun r=>some (r,σ1)
noncomputable def Cv (o:Option O):Bool:=match o with
 |some o=>(match o with
  |.dl _=>true
  |.rev _=>true
  |_=>false)
 |none=>false
noncomputable def Fs (o:Option O):Bool:=match o with
 |some o=>(match o with
  |.dict _=>true
  |_=>false)
 |none=>false
noncomputable def Yhc (o:O) (v:V):Option O:=match o with
 |.dl r=>vD v fun d=>gd (Ws r.length) (some (.dl (d::r)))
 |.rev r=>gd (Ws r.length) (some (.rev (v::r)))
 |_=>none
noncomputable def Zq5 (e a:Clo):Clo:=fun lo σ=>bI (e lo σ) fun n σ1=>gd (Cv (Zj T.old σ1 n)) (bd (a lo σ1) fun v σ2=>ob (Zj T.old σ2 n) fun o=>ob (Yhc o v) fun o'=>ob (X3 σ2 n o') fun σ3=>some (.dat .none,σ3))
noncomputable def Ygq (l:List D) (f:D→List D→Res):Res:=match l with
 | []=>none
 |d::r=>f d r
noncomputable def Zqa (e:Clo):Clo:=fun lo σ=>bI (e lo σ) fun n σ1=>oDl (Zj T.old σ1 n) fun l=>Ygq l fun d r=>gd (Ws r.length) (ob (X3 σ1 n (.dl r)) fun σ2=>some (.dat d,σ2))
noncomputable def orV (o:Option V) (v:V):V:=Option.rec v (fun x=>x) o
noncomputable def Zs5 (e k d:Clo):Clo:=fun lo σ=>bI (e lo σ) fun n σ1=>gd (Fs (Zj T.old σ1 n)) (bD (k lo σ1) fun key σ2=>bd (d lo σ2) fun dv σ3=>B6 (Zj T.old σ3 n) fun es=>gd (C8 key) (ob (getD? es key) fun o=>some (orV o dv,σ3)))
noncomputable def Hc (e:Clo) (a f:Nat) (args:Q3):Clo:=fun lo σ=>bI (e lo σ) fun n σ1=>Pv (Zj T.old σ1 n) fun c _=>ob (T.meth c a) fun g=>gd (Nat.beq f g) (bd (args lo σ1) fun vs σ2=>cf f (.loc (.id n)::vs) σ2)
noncomputable def Zs8 (ce:CE) (a:Clo):Clo:=fun lo σ=>bZ (a lo σ) fun n σ1=>gd (leN n 100000) (ob (ceL ce (Xc n)) fun ds=>some (Ta md ds σ1))
noncomputable def Zq9 (ce:CE) (a:Clo):Clo:=fun lo σ=>bd (a lo σ) fun v σ1=>ob (O4 σ1 v) fun xs=>gd (Ws xs.length) (ob (ceL ce xs) fun ds=>some (Ta md ds σ1))
noncomputable def Mg (ce:CE) (it:KE):Clo:=Option.rec (Zq9 md ce it.1) (fun a=>Zs8 md ce a) it.2
noncomputable def Ygt (b:BI) (a:Clo):Option Clo:=match b with
 |.range=>some a
 |_=>none
noncomputable def Dw (e:Clo) (ih:Q3):Q3:=fun lo σ=>bd (e lo σ) fun v σ1=>bd (ih lo σ1) fun vs σ2=>some (v::vs,σ2)
def Li(op:BoolOp)(b:Bool):Bool:=match op with
 |.And=> !b
 |.Or=>b
noncomputable def Zep (op:BoolOp) (e k:Clo):Clo:=fun lo σ=>bd (e lo σ) fun v σ1=>ob (M3 v) fun b=>bp (Li op b) (some (v,σ1)) (k lo σ1)
noncomputable def eEs:List KE→Q3:=List.rec (fun _ σ=>some ([],σ)) (fun e _ ih=>Dw e.1 ih)
noncomputable def eBs (op:BoolOp) (l:List KE):Option Clo:=List.rec (motive:=fun _=>Option Clo) none (fun e _ ih=>some (Option.rec e.1 (fun k=>Zep op e.1 k) ih)) l
noncomputable def eB (o:Option Clo):Clo:=Option.rec (fun _ _=>none) (fun k=>k) o
noncomputable def kE (e:IE):KE:=IE.rec (motive_1:=fun _=>KE) (motive_2:=fun _=>List KE)
 (fun d=>(eC d,none)) (fun j=>(eNm j,none)) (fun _ g=>(eGl T g,none)) (fun _ l=>(Zqc T (eEs l),none)) (fun _ l=>(Zer md (eEs l),none)) (Dx,none)
 (fun op _ _ a b=>(Zq6 T op a.1 b.1,none)) (fun _ a=>(Zs7 a.1,none)) (fun _ a=>(Zs6 a.1,none)) (fun op _ _ a b=>(Zq7 T op a.1 b.1,none)) (fun op _ l=>(eB (eBs op l),none))
 (fun _ _ _ t a b=>(Zq8 t.1 a.1 b.1,none)) (fun _ a e=>(Ha T e.1 a,none)) (fun _ _ e i=>(Zqb T e.1 i.1,none)) (fun _ k e=>(eWk e.1 k,none)) (fun _ _ e i=>(Zaz List.drop e.1 i.1,none)) (fun _ _ e i=>(Zaz List.take e.1 i.1,none))
 (fun _ f _ l=>(Hb cf f (eEs l),none)) (fun _ c _ l=>(eMk T cf c (eEs l),none)) (fun _ b _ a=>(eBi T b a.1,Ygt b a.1)) (fun _ _ e a=>(Zq5 T e.1 a.1,none)) (fun _ e=>(Zqa T e.1,none)) (fun _ _ _ e k d=>(Zs5 T e.1 k.1 d.1,none))
 (fun _ a f _ e l=>(Hc T cf e.1 a f (eEs l),none)) (fun ce _ _ it=>(Mg md ce it,none))
 [] (fun _ _ a l=>a::l) e
noncomputable def kEs (l:List IE):List KE:=IE.rec_1 (motive_1:=fun _=>KE) (motive_2:=fun _=>List KE)
 (fun d=>(eC d,none)) (fun j=>(eNm j,none)) (fun _ g=>(eGl T g,none)) (fun _ l=>(Zqc T (eEs l),none)) (fun _ l=>(Zer md (eEs l),none)) (Dx,none)
 (fun op _ _ a b=>(Zq6 T op a.1 b.1,none)) (fun _ a=>(Zs7 a.1,none)) (fun _ a=>(Zs6 a.1,none)) (fun op _ _ a b=>(Zq7 T op a.1 b.1,none)) (fun op _ l=>(eB (eBs op l),none))
 (fun _ _ _ t a b=>(Zq8 t.1 a.1 b.1,none)) (fun _ a e=>(Ha T e.1 a,none)) (fun _ _ e i=>(Zqb T e.1 i.1,none)) (fun _ k e=>(eWk e.1 k,none)) (fun _ _ e i=>(Zaz List.drop e.1 i.1,none)) (fun _ _ e i=>(Zaz List.take e.1 i.1,none))
 (fun _ f _ l=>(Hb cf f (eEs l),none)) (fun _ c _ l=>(eMk T cf c (eEs l),none)) (fun _ b _ a=>(eBi T b a.1,Ygt b a.1)) (fun _ _ e a=>(Zq5 T e.1 a.1,none)) (fun _ e=>(Zqa T e.1,none)) (fun _ _ _ e k d=>(Zs5 T e.1 k.1 d.1,none))
 (fun _ a f _ e l=>(Hc T cf e.1 a f (eEs l),none)) (fun ce _ _ it=>(Mg md ce it,none))
 [] (fun _ _ a l=>a::l) l
end
noncomputable def rs (x:Wz) (f:Zd→St→Wz):Wz:=Option.rec none (fun r=>Prod.rec (fun fl q=>Prod.rec (fun lo σ=>Fl.rec (f lo σ) (fun v=>some (.ret v,lo,σ)) fl) q) r) x
noncomputable def flV (f:Fl):V:=Fl.rec (.dat .none) (fun v=>v) f
noncomputable def rl (x:Wz) (f:V→St→Res):Res:=Option.rec none (fun r=>Prod.rec (fun fl q=>Prod.rec (fun _ σ=>f (flV fl) σ) q) r) x
theorem Zqy{x:Wz}{f:Zd→St→Wz}{q:Fl×Zd×St}(h:rs x f=some q){P:Prop}(k:∀lo σ,x=some (.next,lo,σ)→f lo σ=some q→P)(k':∀v lo σ,x=some (.ret v,lo,σ)→q=(.ret v,lo,σ)→P):P:=by
 cases x with
 |none=>exact nn h
 |some r=>
  obtain⟨fl,lo,σ⟩:=r;cases fl with
  |next=>exact k lo σ rfl h
  |ret v=>exact k' v lo σ rfl (sj h).symm
theorem Yj0{x:Wz}{f:V→St→Res}{q:V×St}(h:rl x f=some q){P:Prop}(k:∀fl lo σ,x=some (fl,lo,σ)→f (flV fl) σ=some q→P):P:=by
 cases x with
 |none=>exact nn h
 |some r=>exact k r.1 r.2.1 r.2.2 rfl h
theorem Zqz{x:Wz}{f:Zd→St→Wz}{lo:Zd}{σ:St}(h:x=some (.next,lo,σ)):rs x f=f lo σ:=by rw[h];rfl
theorem Zoe{x:Wz}{f:Zd→St→Wz}{v:V}{lo:Zd}{σ:St}(h:x=some (.ret v,lo,σ)):rs x f=some (.ret v,lo,σ):=by rw[h];rfl
noncomputable def W9 (f:Ye) (b:V→Zd→Option Zd) (l:List D):Ye:=List.rec (fun lo σ=>some (.next,lo,σ)) (fun d _ ih lo σ=>ob (b (.dat d) lo) fun lo1=>rs (f lo1 σ) ih) l
noncomputable def Zsq (i:Nat) (o:O):Option (Option V):=match o with
 |.rev r=>some (r.reverse[i]?)
 |.list r=>some (r[i]?)
 |.dl r=>some ((r.reverse[i]?).map .dat)
 |_=>none
noncomputable def Ho (T:Tb) (σ:St) (n i:Nat):Option (Option V):=ob (Zj T.old σ n) (Zsq i)
noncomputable def Hv (T:Tb) (f:Ye) (b:V→Zd→Option Zd) (n:Nat) (k:Nat):Nat→Ye:=Nat.rec (fun _ _ _=>none) (fun _ ih i lo σ=>ob (Ho T σ n i) fun o=>Option.rec (some (.next,lo,σ)) (fun v=>ob (b v lo) fun lo1=>rs (f lo1 σ) (ih (i + 1))) o) k
noncomputable def Yv (j:Nat) (v:V) (lo:Zd):Option Zd:=gd (Nat.blt j lo.length) (some (Z7 lo j (some v)))
noncomputable def two? (l:List D) (f:D→D→Option Zd):Option Zd:=match l with
 | []=>none
 |a::r=>(match r with
  | []=>none
  |b::r=>(match r with
   | []=>f a b
   |_::_=>none))
noncomputable def Lg (j k:Nat) (v:V) (lo:Zd):Option Zd:=vD v fun d=>dT d fun l=>two? l fun a b=>gd (Nat.blt j lo.length&&Nat.blt k lo.length) (some (Z7 (Z7 lo j (some (.dat a))) k (some (.dat b))))
noncomputable def Sy (l:List V):Option (List Int):=List.rec (some []) (fun v _ ih=>vZ v fun d=>ob ih fun ds=>some (d::ds)) l
noncomputable def isW (lo:Zd) (j:Nat):Option Unit:=ob lo[j]? fun o=>ob o fun v=>vL v fun l=>lW l (some ())
section
variable(T:Tb)(cf:Nat→List V→St→Res)(md:Nat)
def Vh:List Int→Bool
 | []=>true
 |i::r=> !(r.any (eqB i))&&Vh r
noncomputable def U4 (l:List (Nat×Nat)):Option (List Int):=List.rec (some []) (fun p _ ih=>ob (T.gval p.2) fun v=>vZ v fun i=>ob ih fun l=>some (i::l)) l
noncomputable def Zdp (a b:V):Option V:=vZ a fun x=>vZ b fun y=>ob (Tt x y) fun z=>some (.dat (.int z))
noncomputable def nx (lo:Option Zd) (σ:St):Wz:=ob lo fun lo=>some (.next,lo,σ)
noncomputable def nS (lo:Zd) (σ:Option St):Wz:=ob σ fun σ=>some (.next,lo,σ)
noncomputable def Zr1 (j:Nat) (e:Clo):Ye:=fun lo σ=>bd (e lo σ) fun v σ1=>nx (Yv j v lo) σ1
noncomputable def Gq (j k:Nat) (e:Clo):Ye:=fun lo σ=>bd (e lo σ) fun v σ1=>nx (Lg j k v lo) σ1
noncomputable def Zy8 (vs:List V) (p:Nat) (v:V):Option (List V):=bp (Nat.blt p vs.length) (some (Z7 vs p v)) (gd (Nat.beq p vs.length) (some (vs++[v])))
noncomputable def Aw (o:Clo) (a:Nat) (e:Clo):Ye:=fun lo σ=>bd (e lo σ) fun v σ1=>bI (o lo σ1) fun n σ2=>Pv (Zj T.old σ2 n) fun c vs=>ob (Jy (T.attrs c) a 0) fun p=>ob (Zy8 vs p v) fun vs'=>nS lo (X3 σ2 n (.inst c vs'))
noncomputable def Gu (o i e:Clo):Ye:=fun lo σ=>bd (e lo σ) fun v σ1=>bd (o lo σ1) fun x σ2=>bd (i lo σ2) fun y σ3=>nS lo (En T σ3 v x y)
noncomputable def Zg5 (k:WK):Bool:=match k with
 |.pair=>true
 |_=>false
noncomputable def Zoj (o:Clo) (k:WK) (e:Clo):Ye:=fun lo σ=>bD (e lo σ) fun d σ1=>bW (o lo σ1) fun σ2=>gd (Zg5 k) (ob σ2.w fun w=>some (.next,lo,{σ2 with w:=some {w with pair:=d}}))
noncomputable def Gr (j:Nat) (e:Clo):Ye:=fun lo σ=>ob lo[j]? fun o=>ob o fun a=>bd (e lo σ) fun b σ1=>ob (Zdp a b) fun v=>nx (Yv j v lo) σ1
noncomputable def As (o i e:Clo):Ye:=fun lo σ=>bd (o lo σ) fun x σ1=>vL x fun l=>lVs l (bd (i lo σ1) fun y σ2=>ob (Qw T σ2 (.loc .vers) y) fun a=>bd (e lo σ2) fun b σ3=>ob (Zdp a b) fun v=>nS lo (En T σ3 v (.loc .vers) y))
noncomputable def sEx (e:Clo):Ye:=fun lo σ=>bd (e lo σ) fun _ σ1=>some (.next,lo,σ1)
noncomputable def newArr (xs:List Int) (lo:Zd) (σ:St) (w:Wd):Wz:=ob (Tt w.narr 1) fun m=>some (.next,lo,{σ with w:=some {w with arr:=(w.narr,xs)::w.arr,narr:=m,bnd:=w.bnd + 1}})
noncomputable def Zr0 (j:Nat) (e:Clo):Ye:=fun lo σ=>ob (isW lo j) fun _=>bZ (e lo σ) fun n σ1=>ob σ1.w fun w=>gd (leN n 100000&&Ws w.bnd) (newArr (List.replicate n.toNat 0) lo σ1 w)
noncomputable def Ar (j:Nat) (xs e:Clo):Ye:=fun lo σ=>ob (isW lo j) fun _=>bL (xs lo σ) fun ds σ1=>bZ (e lo σ1) fun n σ2=>ob σ2.w fun w=>ob (ints? ds) fun is=>gd (leN n 1000&&(Nat.ble is.length 1000&&Ws w.bnd)) (newArr (is++List.replicate n.toNat 0) lo σ2 w)
noncomputable def Zr3 (j:Nat) (ks:List (Nat×Nat)) (vs:Q3):Ye:=fun lo σ=>ob (isW lo j) fun _=>ob (U4 T ks) fun is=>bd (vs lo σ) fun vs σ1=>ob (Sy vs) fun l=>ob σ1.w fun w=>gd (Nat.beq is.length l.length&&(Ws w.bnd&&Vh is)) (ob (Tt w.nobj 1) fun m=>some (.next,lo,{σ1 with w:=some {w with obj:=(w.nobj,is.zip l)::w.obj,nobj:=m,bnd:=w.bnd + 1}}))
noncomputable def Zr2 (t:Clo) (b o:Ye):Ye:=fun lo σ=>bd (t lo σ) fun v σ1=>ob (M3 v) fun c=>bp c (b lo σ1) (o lo σ1)
noncomputable def Ya7 (j:Nat) (it:Clo) (b:Ye):Ye:=fun lo σ=>bd (it lo σ) fun v σ1=>match v with
 |.dat d=>(match d with
  |.list xs=>W9 b (Yv j) xs lo σ1
  |.tuple xs=>W9 b (Yv j) xs lo σ1
  |_=>none)
 |.loc l=>lI l fun n=>Hv T b (Yv j) n 200 0 lo σ1
noncomputable def Ya8 (j:Nat) (a:Clo) (b:Ye):Ye:=fun lo σ=>bZ (a lo σ) fun n σ1=>gd (leN n 100000) (W9 b (Yv j) (Xc n) lo σ1)
noncomputable def Gs (j:Nat) (it:KE) (b:Ye):Ye:=Option.rec (Ya7 T j it.1 b) (fun a=>Ya8 j a b) it.2
noncomputable def At (j k:Nat) (it:Clo) (b:Ye):Ye:=fun lo σ=>bD (it lo σ) fun d σ1=>match d with
 |.list xs=>W9 b (Lg j k) xs lo σ1
 |.tuple xs=>W9 b (Lg j k) xs lo σ1
 |_=>none
noncomputable def Zr4 (e:Clo):Ye:=fun lo σ=>bd (e lo σ) fun v σ1=>some (.ret v,lo,σ1)
def Au:Ye:=fun lo σ=>some (.ret (.dat .none),lo,σ)
def sNo:Ye:=fun _ _=>none
def P7:Ye:=fun lo σ=>some (.next,lo,σ)
theorem Yj1(x:Wz):rs x P7=x:=by
 cases x with
 |none=>rfl
 |some r=>
  obtain⟨fl,lo,σ⟩:=r;cases fl <;> rfl
noncomputable def Ygu (a b:Ye):Ye:=fun lo σ=>rs (a lo σ) b
noncomputable def Av (r:List IS) (a b:Ye):Ye:=List.rec a (fun _ _ _=>Ygu a b) r
noncomputable def kS (s:IS):Ye:=IS.rec (motive_1:=fun _=>Ye) (motive_2:=fun _=>Ye)
 (fun j e=>Zr1 j (kE T cf md e).1) (fun j k e=>Gq j k (kE T cf md e).1) (fun o a e=>Aw T (kE T cf md o).1 a (kE T cf md e).1) (fun o i e=>Gu T (kE T cf md o).1 (kE T cf md i).1 (kE T cf md e).1)
 (fun o k e=>Zoj (kE T cf md o).1 k (kE T cf md e).1) (fun j e=>Gr j (kE T cf md e).1) (fun o i e=>As T (kE T cf md o).1 (kE T cf md i).1 (kE T cf md e).1) (fun e=>sEx (kE T cf md e).1)
 (fun j e=>Zr0 j (kE T cf md e).1) (fun j xs e=>Ar j (kE T cf md xs).1 (kE T cf md e).1) (fun j ks vs=>Zr3 T j ks (eEs (kEs T cf md vs)))
 (fun t _ _ b o=>Zr2 (kE T cf md t).1 b o) (fun j it _ b=>Gs T j (kE T cf md it) b) (fun j k it _ b=>At j k (kE T cf md it).1 b)
 (fun e=>Zr4 (kE T cf md e).1) Au (fun _ _=>sNo) P7 P7 (fun _ r a b=>Av r a b) s
noncomputable def kSs (l:List IS):Ye:=IS.rec_1 (motive_1:=fun _=>Ye) (motive_2:=fun _=>Ye)
 (fun j e=>Zr1 j (kE T cf md e).1) (fun j k e=>Gq j k (kE T cf md e).1) (fun o a e=>Aw T (kE T cf md o).1 a (kE T cf md e).1) (fun o i e=>Gu T (kE T cf md o).1 (kE T cf md i).1 (kE T cf md e).1)
 (fun o k e=>Zoj (kE T cf md o).1 k (kE T cf md e).1) (fun j e=>Gr j (kE T cf md e).1) (fun o i e=>As T (kE T cf md o).1 (kE T cf md i).1 (kE T cf md e).1) (fun e=>sEx (kE T cf md e).1)
 (fun j e=>Zr0 j (kE T cf md e).1) (fun j xs e=>Ar j (kE T cf md xs).1 (kE T cf md e).1) (fun j ks vs=>Zr3 T j ks (eEs (kEs T cf md vs)))
 (fun t _ _ b o=>Zr2 (kE T cf md t).1 b o) (fun j it _ b=>Gs T j (kE T cf md it) b) (fun j k it _ b=>At j k (kE T cf md it).1 b)
 (fun e=>Zr4 (kE T cf md e).1) Au (fun _ _=>sNo) P7 P7 (fun _ r a b=>Av r a b) l
end
structure Fn where
 np:Nat
 nl:Nat
 md:Nat
 body:List IS
def Ft(o:O):Bool:=match o with
 |.dl _=>true
 |_=>false
def Ub(l:List O):Nat→Nat→List O
 |0,_=>l
 |k + 1,n=>match l with
  | []=>[]
  |_::r=>Ub r k n
noncomputable def Bb (md:Nat) (σ σ1:St) (v:V):Res:=bp (Nat.beq md 1) (vD v fun d=>gd ((Ub σ1.tmp (σ1.next - σ.next) 0).all Ft) (some (.dat d,{σ1 with next:=σ.next,tmp:=Ub σ1.tmp (σ1.next - σ.next) 0}))) (some (v,σ1))
noncomputable def Rd (T:Tb) (cf:Nat→List V→St→Res) (F:Fn) (args:List V) (σ:St):Res:=
 gd (Nat.beq args.length F.np) (rl (kSs T cf F.md F.body (args.map some++List.replicate (F.nl - F.np) none) σ) fun v σ1=>Bb F.md σ σ1 v)
noncomputable def run (T:Tb) (fns:Nat→Option Fn) (d:Nat):Nat→List V→St→Res:=
 Nat.rec (fun _ _ _=>none) (fun _ ih f args σ=>ob (fns f) fun F=>Rd T ih F args σ) d
section
variable{T:Tb}{r:Wz}{P:Prop}{q:Fl×Zd×St}
theorem Yja{lo:Option Zd}{σ:St}(h:nx lo σ=some q)(k:∀lo',lo=some lo'→q=(.next,lo',σ)→P):P:=Za h fun lo' e h=>k lo' e (sj h).symm
theorem Yj9{lo:Zd}{σ:Option St}(h:nS lo σ=some q)(k:∀σ',σ=some σ'→q=(.next,lo,σ')→P):P:=Za h fun lo' e h=>k lo' e (sj h).symm
end
set_option genInjectivity true
set_option genSizeOf true
def vC(val:Int→Int)(i:Int):Int:=i - hiC i * 1208925819614629174706176 + val (hiC i)
theorem Zz{n k:Nat}(h:Nat.blt n k=true):n < k:=Nat.le_of_ble_eq_true h
theorem Zqm{n:Nat}{i:Int}{k:Nat}(h:n < k)(e:i= .ofNat n∨i= .negSucc n): -(k:Int)≤i∧i < k:=by
 rcases e with rfl |rfl
 ·exact⟨by simp only[Int.ofNat_eq_natCast];omega,Int.ofNat_lt.mpr h⟩
 ·exact⟨by omega,by omega⟩
theorem K0{i:Int}(h:Yo i=true): -604462909807314587353088≤i∧i < 604462909807314587353088:=by
 cases i with
 |ofNat n=>exact Zqm (Zz h) (.inl rfl)
 |negSucc n=>exact Zqm (Zz h) (.inr rfl)
theorem Xw{i:Int}(h:small i=true): -4611686018427387904≤i∧i < 4611686018427387904:=by
 cases i with
 |ofNat n=>exact Zqm (Zz h) (.inl rfl)
 |negSucc n=>exact Zqm (Zz h) (.inr rfl)
theorem hi0{i:Int}(a: -604462909807314587353088≤i)(b:i < 604462909807314587353088):hiC i=0:=by unfold hiC;omega
theorem Y1{i:Int}(h:Yo i=true):hiC i=0:=hi0 (K0 h).1 (K0 h).2
theorem G0{i:Int}(h:small i=true):hiC i=0:=hi0 (Int.le_trans (by decide) (Xw h).1) (Int.lt_of_lt_of_le (Xw h).2 (by decide))
theorem Zu{a b:Int}(h:eqB a b=true):a=b:=(W.Z.eqB_iff a b).mp h
theorem Sv(a:Int):eqB a a=true:=(W.Z.eqB_iff a a).mpr rfl
theorem Pf{a b:Int}(h:eqB a b=false):a≠b:=fun e=>by rw[e,Sv] at h;cases h
section
variable{val:Int→Int}(h0:val 0=0)
include h0
theorem Zag{i:Int}(h:hiC i=0):vC val i=i:=by unfold vC;rw[h,h0];exact(Int.add_zero _).trans (Int.sub_zero i)
theorem Zo{i:Int}(h:Yo i=true):vC val i=i:=Zag h0 (Y1 h)
theorem Rg{i:Int}(h:small i=true):vC val i=i:=Zag h0 (G0 h)
theorem Ev{a b:Int}(h:hiC (a + b)=hiC a)(hb:vC val b=b):vC val (a + b)=vC val a + vC val b:=by rw[hb];unfold vC;rw[h];omega
theorem Sp{a b c:Int}(h:Tt a b=some c):vC val c=vC val a + vC val b:=
 Zl h fun hl h=>Zl h fun he h=>by
  have he:=Zu he;cases sj h;cases hb:Yo b with
  |true=>rw[Y1 hb,Int.add_zero] at he;exact Ev h0 he (Zo h0 hb)
  |false=>
   rw[hb,Bool.or_false] at hl;rw[Y1 hl,Int.zero_add] at he;rw[Int.add_comm,Int.add_comm (vC val a)];exact Ev h0 (Int.add_comm a b ▸ he) (Zo h0 hl)
theorem A6{a b c:Int}(h:G3 a b=some c):vC val c=vC val a - vC val b:=
 Vc h (fun hb h=>Zl h fun he h=>by
  have he:=Zu he;cases sj h
  rw[Zo h0 hb];unfold vC;rw[he];omega) fun _ h=>Zl h fun he h=>Zl h fun hl h=>by
  have he:=Zu he;cases sj h;rw[Zo h0 hl];unfold vC;rw[he];omega
end
def Zrd(op:Nat)(a b c:Int):Prop:=match op with
 |0=>b≠0∧b.natAbs < 4611686018427387905∧c=a.fdiv b
 |1=>b≠0∧c=a.fmod b
 |_=>False
def Fact.Holds(ν:Int→Int):Fact→Prop
 |.ar op a b c=>Zrd op (ν a) (ν b) (ν c)
 |.eq a b t=>(ν a=ν b↔t=true)
 |.lt a b t=>(ν a < ν b↔t=true)
section
variable{val:Int→Int}{Φ:List Fact}(hΦ:∀f∈Φ,f.Holds (vC val))
include hΦ
theorem L3{a b:Int}{t:Bool}(h:Fj Φ a b=some t):vC val a=vC val b↔t=true:=by
 induction Φ with
 |nil=>exact nn h
 |cons f r ih=>
  have ih:=ih fun g hg=>hΦ g (.tail _ hg);cases f with
  |eq x y t'=>
   have hf:vC val x=vC val y↔t'=true:=hΦ _ (.head _);refine Vc h (fun he h=> ?_) fun _=>ih;cases sj h;rcases(Bool.or_eq_true _ _).mp he with he |he
   ·exact Yp he fun h1 h2=>Zu h1 ▸ Zu h2 ▸ hf
   ·exact Yp he fun h1 h2=>Zu h1 ▸ Zu h2 ▸ ⟨fun e=>hf.mp e.symm,fun e=>(hf.mpr e).symm⟩
  |_=>exact ih h
theorem L4{a b:Int}{t:Bool}(h:Fk Φ a b=some t):vC val a < vC val b↔t=true:=by
 induction Φ with
 |nil=>exact nn h
 |cons f r ih=>
  have ih:=ih fun g hg=>hΦ g (.tail _ hg);cases f with
  |lt x y t'=>
   have hf:vC val x < vC val y↔t'=true:=hΦ _ (.head _);refine Vc h (fun he h=> ?_) fun _=>ih;cases sj h;exact Yp he fun h1 h2=>Zu h1 ▸ Zu h2 ▸ hf
  |_=>exact ih h
theorem Uw{op:Nat}{a b c:Int}(h:Ow Φ op a b=some c):Zrd op (vC val a) (vC val b) (vC val c):=by
 induction Φ with
 |nil=>exact nn h
 |cons f r ih=>
  have ih:=ih fun g hg=>hΦ g (.tail _ hg);cases f with
  |ar o x y z=>
   have hf:Zrd o (vC val x) (vC val y) (vC val z):=hΦ _ (.head _);refine Vc h (fun he h=> ?_) fun _=>ih;cases sj h;exact Xy he fun h1 h2 h3=>Nat.eq_of_beq_eq_true h1 ▸ Zu h2 ▸ Zu h3 ▸ hf
  |_=>exact ih h
theorem Zzs{a b:Int}(h:hiC a=hiC b):(vC val a=vC val b↔a=b):=by unfold vC;rw[h];omega
theorem Zzt{a b:Int}(h:hiC a=hiC b):(vC val a < vC val b↔a < b):=by unfold vC;rw[h];omega
theorem Lz{a b:Int}{t:Bool}(h:eqC Φ a b=some t):vC val a=vC val b↔t=true:=
 Vc h (fun he h=>sj h ▸ (Zzs hΦ (Zu he)).trans (W.Z.eqB_iff a b).symm) fun _=>L3 hΦ
theorem O6{a b:Int}{t:Bool}(h:ltC Φ a b=some t):vC val a < vC val b↔t=true:=
 Vc h (fun he h=>sj h ▸ (Zzt hΦ (Zu he)).trans (W.Z.ltB_iff a b).symm) fun _=>L4 hΦ
end
mutual
def mD(ν:Int→Int):D→D
 |.int i=> .int (ν i)
 |.tuple xs=> .tuple (mDs ν xs)
 |.list xs=> .list (mDs ν xs)
 |.dict kvs=> .dict kvs
 |.none=> .none
 |.bool b=> .bool b
 |.str s=> .str s
def mDs(ν:Int→Int):List D→List D
 | []=>[]
 |d::r=>mD ν d::mDs ν r
end
theorem Xj(ν:Int→Int)(l:List D):mDs ν l=l.map (mD ν):=by
 induction l with
 |nil=>rfl
 |cons x r ih=>exact congrArg (mD ν x:: ·) ih
mutual
theorem Se{val:Int→Int}(h0:val 0=0):∀{d:D},Q4 d=true→mD (vC val) d=d
 |.int i,h=>congrArg PyData.int (Zo h0 h)
 |.tuple xs,h=>congrArg PyData.tuple (Va h0 h)
 |.list xs,h=>congrArg PyData.list (Va h0 h)
 |.dict kvs,h=>rfl
 |.none,h=>rfl
 |.bool b,h=>rfl
 |.str s,h=>rfl
theorem Va{val:Int→Int}(h0:val 0=0):∀{l:List D},Y8 l=true→mDs (vC val) l=l
 | [],_=>rfl
 |d::r,h=>Us (Se h0 (a2 h).1) (Va h0 (a2 h).2)
end
theorem Ph{a b:Int}{t:Bool}(h:a=b↔t=true):(a == b)=t:=by
 cases t with
 |true=>exact beq_iff_eq.mpr (h.mpr rfl)
 |false=>exact beq_eq_false_iff_ne.mpr fun e=>nf (h.mp e)
theorem Zdr{a b:Option Bool}{t:Bool}(h:Zav a b=some t){c e:Bool}(h1:∀t,a=some t→c=t)(h2:∀t,b=some t→e=t):(c&&e)=t:=by
 cases a with
 |some a=>cases a with
  |true=>rw[h1 _ rfl];exact h2 _ h
  |false=>rw[h1 _ rfl];exact sj h
 |none=>cases b with
  |none=>exact nn h
  |some b=>cases b with
   |true=>exact nn h
   |false=>rw[h2 _ rfl,Bool.and_false];exact sj h
mutual
theorem Ov{val:Int→Int}{Φ:List Fact}(hΦ:∀f∈Φ,f.Holds (vC val)):∀{a b:D} {t:Bool},eqD Φ a b=some t→PyData.eqv (mD (vC val) a) (mD (vC val) b)=t
 |.none,b,t,h=>Zej (M:=fun b=>PyData.eqv .none (mD (vC val) b)=t) h sj
 |.bool a,b,t,h=>Ya2 (M:=fun b=>PyData.eqv (.bool a) (mD (vC val) b)=t) h fun i=>sj
 |.int a,b,t,h=>by
  cases b with
  |int b=>exact Ph (Lz hΦ h)
  |tuple _=>exact sj h
  |_=>exact nn h
 |.str a,b,t,h=>Zrq (M:=fun b=>PyData.eqv (.str a) (mD (vC val) b)=t) h fun i h=>sj h ▸ by
  show(a == i)=decide (a=i);by_cases e:a=i <;> simp[e]
 |.tuple xs,b,t,h=>by
  cases b with
  |tuple ys=>exact Pg hΦ h
  |int _=>exact sj h
  |_=>exact nn h
 |.list xs,b,t,h=>Zq4 (M:=fun b=>PyData.eqv (.list (mDs (vC val) xs)) (mD (vC val) b)=t) h fun ys h=>Pg hΦ h
 |.dict _,b,t,h=>nn h
theorem Pg{val:Int→Int}{Φ:List Fact}(hΦ:∀f∈Φ,f.Holds (vC val)):∀{a b:List D} {t:Bool},Mh Φ a b=some t→PyData.eqvAll (mDs (vC val) a) (mDs (vC val) b)=t
 | [],b,t,h=>by
   cases b with
   |nil=>exact sj h
   |cons _ _=>exact sj h
 |x::xs,b,t,h=>by
  cases b with
  |nil=>exact sj h
  |cons y ys=>exact Zdr h (fun t h=>Ov hΦ h) fun t h=>Pg hΦ h
end
end Mine
namespace Mine
open PySem PySem.W PySem.Calls PyProof.Rows
def nkD:NK→PyData
 |.i n=> .int n
 |.t l=> .tuple (l.map PyData.int)
section
variable(prog:Program)(w:World)
def NkIs(h:Heap):NK→Value→Prop
 |.i n,x=>∃t,x= .int n t
 |.t l,x=>∃a,x= .ref a∧IsTupleKey (intKind prog w) h l a
def NkAll(h:Heap):List NK→List Value→Prop
 | [],vs=>vs=[]
 |k::r,vs=>∃v vs',vs=v::vs'∧NkIs prog w h k v∧NkAll h r vs'
def IsNk(h:Heap)(ks:List NK)(a:Addr):Prop:=∃o items n,h.get? a=some o∧o.cls= .type "tuple"∧o.data= .seq items n∧NkAll prog w h ks items.toList
def Tc:NK→Int
 |.i n=>hashInt n
 |.t l=>tupleKeyHash (intKind prog w) l
def V2:NK→Nat
 |.i _=>1
 |.t l=>l.length + 1
def Pu(ks:List NK):Int:=reduceHash (Builtin.Tuple.tupleHashOf (ks.map (Tc prog w)))
def S7(ks:List NK):Nat:=(ks.map V2).sum + 1
variable{prog w}
theorem NkIs.inj{h:Heap}{x y:NK}{v:Value}(a:NkIs prog w h x v)(b:NkIs prog w h y v):x=y:=by
 cases x with
 |i n=>
  obtain⟨t,rfl⟩:=a;cases y with
  |i m=>obtain⟨t',e⟩:=b;cases e;rfl
  |t l=>obtain⟨a,e,_⟩:=b;cases e
 |t l=>
  obtain⟨a,rfl,hl⟩:=a;cases y with
  |i m=>obtain⟨t',e⟩:=b;cases e
  |t m=>obtain⟨a,e,hm⟩:=b;cases e;rw[hl.inj hm]
theorem NkAll.inj{h:Heap}:∀{x y:List NK} {vs:List Value},NkAll prog w h x vs→NkAll prog w h y vs→x=y
 | [],[],_,_,_=>rfl
 | [],_::_,_,a,b=>by rw[show _=[] from a] at b;obtain⟨_,_,e,_⟩:=b;cases e
 |_::_,[],_,a,b=>by rw[show _=[] from b] at a;obtain⟨_,_,e,_⟩:=a;cases e
 |x::xs,y::ys,_,a,b=>by
  obtain⟨v,vs,rfl,a1,a2⟩:=a;obtain⟨v',vs',e,b1,b2⟩:=b;cases e;rw[a1.inj b1,NkAll.inj a2 b2]
theorem IsNk.inj{h:Heap}{x y:List NK}{a:Addr}(p:IsNk prog w h x a)(q:IsNk prog w h y a):x=y:=by
 obtain⟨o,items,n,ho,_,hd,hi⟩:=p;obtain⟨o',items',n',ho',_,hd',hi'⟩:=q;obtain rfl:o=o':=Option.some.inj (ho.symm.trans ho');rw[hd] at hd';injection hd' with h1 _
 subst h1;exact hi.inj hi'
theorem IsNk.typeIs{s:Shared}{ks:List NK}{a:Addr}(x:IsNk prog w s.heap ks a):s.TypeIs (.ref a) "tuple":=let⟨o,_,_,ho,hc,_⟩:=x;⟨o,ho,hc⟩
theorem Zab{h h':Heap}{l:List Int}{a:Addr}(x:IsTupleKey (intKind prog w) h l a)(k:∀b o vs n,h.get? b=some o→o.data= .seq vs n→h'.get? b=some o):IsTupleKey (intKind prog w) h' l a:=by
 obtain⟨o,items,n,ho,hc,hd,hi⟩:=x;exact⟨o,items,n,k _ _ _ _ ho hd,hc,hd,hi⟩
theorem NkAll.moves{h h':Heap}(k:∀b o vs n,h.get? b=some o→o.data= .seq vs n→h'.get? b=some o):∀{x:List NK} {vs:List Value},NkAll prog w h x vs→NkAll prog w h' x vs
 | [],_,a=>a
 |x::xs,_,a=>by
  obtain⟨v,vs,rfl,a1,a2⟩:=a;refine⟨v,vs,rfl,?_,NkAll.moves k a2⟩;cases x with
  |i n=>exact a1
  |t l=>obtain⟨b,e,hb⟩:=a1;exact⟨b,e,Zab hb k⟩
theorem IsNk.moves{h h':Heap}{ks:List NK}{a:Addr}(x:IsNk prog w h ks a)(k:∀b o vs n,h.get? b=some o→o.data= .seq vs n→h'.get? b=some o):IsNk prog w h' ks a:=by
 obtain⟨o,items,n,ho,hc,hd,hi⟩:=x;exact⟨o,items,n,k _ _ _ _ ho hd,hc,hd,hi.moves k⟩
theorem IsNk.keeps{h h':Heap}{ks:List NK}{a d:Addr}{o:Obj}{es ep}(x:IsNk prog w h ks a)(ho:h.get? d=some o)(hd:o.data= .dict es ep)(hs:Heap.SameBut d h h'):IsNk prog w h' ks a:=
 x.moves fun b o' vs n g e=>by
  refine(hs.2 b ?_).trans g;rintro rfl;obtain rfl:o'=o:=Option.some.inj (g.symm.trans ho);rw[hd] at e;exact nomatch e
theorem U0{h:Heap}:∀{l:List Int} {vs:List Value},ItemsAre (intKind prog w) l vs→ReadsAll h vs (l.map PyData.int) []
 |_,_,.nil=> .nil
 |_,_,.cons h1 r=>by
  obtain⟨t,rfl⟩:=Value.isInt_shape h1;exact .cons (as:=[]) (bs:=[]) (.int _ t) (U0 r)
theorem NkIs.reads{h:Heap}{k:NK}{v:Value}(x:NkIs prog w h k v):∃as,Reads h v (nkD k) as:=by
 cases k with
 |i n=>obtain⟨t,rfl⟩:=x;exact⟨_,.int n t⟩
 |t l=>obtain⟨a,rfl,o,items,n,ho,hc,hd,hi⟩:=x;exact⟨_,.tuple ho hc hd (U0 hi)⟩
theorem NkAll.reads{h:Heap}:∀{x:List NK} {vs:List Value},NkAll prog w h x vs→∃as,ReadsAll h vs (x.map nkD) as
 | [],_,a=>by rw[show _=[] from a];exact⟨_,.nil⟩
 |x::xs,_,a=>by
  obtain⟨v,vs,rfl,a1,a2⟩:=a;obtain⟨as,p⟩:=a1.reads;obtain⟨bs,q⟩:=NkAll.reads a2;exact⟨_,.cons p q⟩
theorem IsNk.reads{h:Heap}{ks:List NK}{a:Addr}(x:IsNk prog w h ks a):∃as,Reads h (.ref a) (.tuple (ks.map nkD)) as:=by
 obtain⟨o,items,n,ho,hc,hd,hi⟩:=x;obtain⟨as,q⟩:=hi.reads;exact⟨_,.tuple ho hc hd q⟩
theorem O1:∀l:List Int,PyData.canLayAll0 (l.map PyData.int)=true∧PyData.depthAll (l.map PyData.int)≤1
 | []=>⟨rfl,Nat.zero_le _⟩
 |x::r=>by
  have:=O1 r;refine⟨?_,?_⟩
  ·show(PyData.canLay0 (.int x)&&PyData.canLayAll0 (r.map PyData.int))=true
   rw[this.1];rfl
  ·show max (PyData.depth (.int x)) (PyData.depthAll (r.map PyData.int))≤1
   have e:PyData.depth (.int x)≤1:=by unfold PyData.depth;omega
   omega
theorem S8:∀l:List NK,PyData.canLayAll0 (l.map nkD)=true∧PyData.depthAll (l.map nkD)≤2
 | []=>⟨rfl,Nat.zero_le _⟩
 |x::r=>by
  have h:=S8 r;have h1:PyData.canLay0 (nkD x)=true∧PyData.depth (nkD x)≤2:=by
   cases x with
   |i n=>exact⟨rfl,by show PyData.depth (.int n)≤2;unfold PyData.depth;omega⟩
   |t l=>
    have:=O1 l;exact⟨this.1,by show PyData.depthAll (l.map PyData.int) + 1≤2;omega⟩
  refine⟨?_,?_⟩
  ·show(PyData.canLay0 (nkD x)&&PyData.canLayAll0 (r.map nkD))=true
   rw[h.1,h1.1];rfl
  ·show max (PyData.depth (nkD x)) (PyData.depthAll (r.map nkD))≤2
   omega
theorem O0:∀a b:List Int,PyData.eqvAll (a.map PyData.int) (b.map PyData.int)=decide (a=b)
 | [],[]=>rfl
 | [],_::_=>rfl
 |_::_,[]=>rfl
 |x::a,y::b=>by
  show(PyData.eqv (.int x) (.int y)&&PyData.eqvAll (a.map PyData.int) (b.map PyData.int))=_;rw[O0 a b];show((x == y)&&decide (a=b))=_;by_cases h:x=y <;> by_cases h':a=b <;> simp[h,h']
theorem Zh6(a b:NK):PyData.eqv (nkD a) (nkD b)=decide (a=b):=by
 cases a with
 |i n=>
  cases b with
  |i m=>show(n == m)=_;by_cases h:n=m <;> simp[h]
  |t l=>simp[nkD,PyData.eqv]
 |t l=>
  cases b with
  |i m=>simp[nkD,PyData.eqv]
  |t m=>show PyData.eqvAll (l.map PyData.int) (m.map PyData.int)=_;rw[O0];by_cases h:l=m <;> simp[h]
theorem Ji:∀a b:List NK,PyData.eqvAll (a.map nkD) (b.map nkD)=decide (a=b)
 | [],[]=>rfl
 | [],_::_=>rfl
 |_::_,[]=>rfl
 |x::a,y::b=>by
  show(PyData.eqv (nkD x) (nkD y)&&PyData.eqvAll (a.map nkD) (b.map nkD))=_;rw[Ji a b,Zh6];by_cases h:x=y <;> by_cases h':a=b <;> simp[h,h']
section
variable{A:Around}{E:Value→Shared→Prop}{s:Shared}
theorem Jg{x y:List NK}{a b:Addr}{Q:Bool→Shared→Prop}(hu:A.units + 64 < cLine)(hx:IsNk prog w s.heap x a)(hy:IsNk prog w s.heap y b)(h:Q (decide (x=y)) s):
 wpAny (model prog w) A (PySem.eqBool (.ref a) (.ref b)) Q E s:=by
 obtain⟨as,p⟩:=hx.reads;obtain⟨bs,q⟩:=hy.reads;have dx:(PyData.tuple (x.map nkD)).depth≤3:=by show PyData.depthAll (x.map nkD) + 1≤3;have:=(S8 x).2;omega
 refine SeqAt.eqBoolOverData prog w A E s _ _ _ _ as bs Q p q (S8 x).1 (S8 y).1 ?_ ?_
 ·have:=Nat.min_le_left (PyData.tuple (x.map nkD)).depth (PyData.tuple (y.map nkD)).depth
  omega
 ·rw[show PyData.eqv (.tuple (x.map nkD)) (.tuple (y.map nkD))=decide (x=y) from Ji x y];exact h
theorem J0(m:Nat){ks:List Int}{a:Addr}{Q:Bool→Shared→Prop}(hk:IsTupleKey (intKind prog w) s.heap ks a)(h:Q true s):wpAny (model prog w) A (eqIsQuiet (m + 1) (.ref a)) Q E s:=by
 have hT:=hk.typeIs;obtain⟨o,items,n,ho,_,hd,hi⟩:=hk;unfold eqIsQuiet;refine wpAny_bind (wpAny_specialOf hT F.slot_tuple_eq.lookup ?_);show wpAny _ _ (isInstance (.ref a) (.type "tuple") >>= _) _ _ s;refine wpAny_bind (wpAny_isInstance hT isSubtype_tuple_tuple ?_);simp only[Bool.not_true,Bool.false_eq_true,if_false];refine wpAny_bind (wpAny_seqItems ho hd ?_);refine wpAny_bind ?_;show wpAny _ _ (forIn items _ _) _ _ s;rw[← Array.forIn_toList];refine wpAny_forIn_list _ (fun rest r s'=>r.1=none∧s'=s∧∀v∈rest,carriedByValue v=true) _ ?_ ?_ _ _ ⟨rfl,rfl,hi.byValue⟩
 ·rintro v rest r s' ⟨hr,rfl,hall⟩
  rw[eqIsQuiet_byValue _ (hall v List.mem_cons_self)];refine wpAny_bind (wpAny_pure ?_);simp only[Bool.not_true,Bool.false_eq_true,if_false];exact wpAny_pure ⟨rfl,rfl,fun u hu'=>hall u (List.mem_cons_of_mem _ hu')⟩
 ·rintro⟨r1,r2⟩ s' ⟨hr,rfl,_⟩
  simp only at hr;subst hr;exact wpAny_pure h
theorem H6{ks:List NK}{a:Addr}{Q:Bool→Shared→Prop}(hk:IsNk prog w s.heap ks a)(h:Q true s):wpAny (model prog w) A (eqIsQuiet 8 (.ref a)) Q E s:=by
 have hT:=hk.typeIs;obtain⟨o,items,n,ho,_,hd,hi⟩:=hk;unfold eqIsQuiet;refine wpAny_bind (wpAny_specialOf hT F.slot_tuple_eq.lookup ?_);show wpAny _ _ (isInstance (.ref a) (.type "tuple") >>= _) _ _ s;refine wpAny_bind (wpAny_isInstance hT isSubtype_tuple_tuple ?_);simp only[Bool.not_true,Bool.false_eq_true,if_false];refine wpAny_bind (wpAny_seqItems ho hd ?_);refine wpAny_bind ?_;show wpAny _ _ (forIn items _ _) _ _ s;rw[← Array.forIn_toList];refine wpAny_forIn_list _ (fun rest r s'=>r.1=none∧s'=s∧∃kk,NkAll prog w s.heap kk rest) _ ?_ ?_ _ _ ⟨rfl,rfl,ks,hi⟩
 ·rintro v rest r s' ⟨hr,rfl,kk,hall⟩
  cases kk with
  |nil=>cases(show _=[] from hall)
  |cons k kk=>
   obtain⟨v',vs',e,h1,h2⟩:=hall;cases e;have fin:wpAny (model prog w) A (eqIsQuiet 7 v) (fun b s''=>b=true∧s''=s') E s':=by
    cases k with
    |i n=>obtain⟨t,rfl⟩:=h1;rw[eqIsQuiet_byValue _ rfl];exact wpAny_pure ⟨rfl,rfl⟩
    |t l=>obtain⟨b,rfl,hb⟩:=h1;exact J0 6 hb ⟨rfl,rfl⟩
   refine wpAny_bind (wpAny_mono fin (fun b s'' hb=> ?_) fun _ _ e=>e);obtain⟨rfl,rfl⟩:=hb;simp only[Bool.not_true,Bool.false_eq_true,if_false];exact wpAny_pure ⟨rfl,rfl,kk,h2⟩
 ·rintro⟨r1,r2⟩ s' ⟨hr,rfl,_⟩
  simp only at hr;subst hr;exact wpAny_pure h
theorem Jh{ks:List NK}{a:Addr}{Q:Int→Shared→Prop}(hu:A.units + 64 < cLine)(hk:IsNk prog w s.heap ks a)(h:Q (Pu prog w ks) {s with toks:=s.toks + S7 ks}):
 wpAny (model prog w) A (pyHash (.ref a)) Q E s:=by
 have hT:=hk.typeIs;obtain⟨o,items,n,ho,_,hd,hi⟩:=hk;have hu0:A.units < cLine:=by omega
 unfold pyHash pyHashByItsType;refine wpAny_bind (wpAny_cRoomFor_or (.inr hu0) ?_);refine wpAny_bind (wpAny_specialOf hT F.slot_tuple_hash.lookup ?_);show wpAny _ _ (if(some (Value.builtin "tuple.__hash__") == some Value.none)=true then _ else _) Q E s;rw[if_neg (by rw[beq_builtin_none];exact Bool.false_ne_true)];refine wpAny_bind (wpAny_specialOf hT F.slot_tuple_hash.lookup ?_);show wpAny _ _ (callSpecialIfBoundUnlessNone? (.ref a) "__hash__" _ >>= _) Q E s;refine wpAny_bind (wpAny_callSpecialIfBoundUnlessNone?_slot hT F.slot_tuple_hash (wpAny_call_entry F.slot_tuple_hash hT F.entry_tuple_hash ?_ (F.args_tuple_hash_1 _)));show wpAny _ _ (Builtin.Tuple.tupleItemsOf (.ref a) >>= _) _ _ s;refine wpAny_bind (wpAny_tupleItemsOf ho hd ?_);refine wpAny_bind ?_;rw[← Array.forIn_toList]
 refine wpAny_forIn_list _
  (fun rest (b:Array Int) s'=>∃done left,ks=done++left∧NkAll prog w s.heap left rest∧b.toList=done.map (Tc prog w)∧s'={s with toks:=s.toks + (done.map V2).sum})
  _ ?_ ?_ _ _ ⟨[],ks,rfl,hi,rfl,rfl⟩
 ·rintro x rest b s' ⟨done,left,rfl,hl,hb,rfl⟩
  cases left with
  |nil=>cases(show _=[] from hl)
  |cons k left=>
   obtain⟨v',vs',e,h1,h2⟩:=hl;cases e;have fin:wpAny (model prog w) A.in1 (pyHash x) (fun i s''=>i=Tc prog w k∧s''={s with toks:=s.toks + (done.map V2).sum + V2 k}) E {s with toks:=s.toks + (done.map V2).sum}:=by
    cases k with
    |i n=>obtain⟨t,rfl⟩:=h1;exact wpAny_pyHash_int ⟨rfl,rfl⟩
    |t l=>
     obtain⟨b,rfl,hb⟩:=h1;exact wpAny_pyHash_tuple (knd:=intKind prog w) (s:={s with toks:=s.toks + (done.map V2).sum}) (by show A.units + 1 < cLine;omega) hb ⟨rfl,rfl⟩
   refine wpAny_bind (wpAny_mono fin (fun i s'' hi'=> ?_) fun _ _ e=>e);obtain⟨rfl,rfl⟩:=hi';first
    |exact wpAny_pure ⟨done++[k],left,by simp,h2,by simp[hb],by simp[Nat.add_assoc]⟩
    |exact wpAny_bind (wpAny_pure (wpAny_pure ⟨done++[k],left,by simp,h2,by simp[hb],by simp[Nat.add_assoc]⟩))
 ·rintro b s' ⟨done,left,rfl,hl,hb,rfl⟩
  cases left with
  |cons _ _=>obtain⟨_,_,e,_⟩:=hl;cases e
  |nil=>
   rw[List.append_nil] at h;show wpAny _ _ (retInt (Builtin.Tuple.tupleHashOf b.toList)) _ _ _;rw[hb];refine wpAny_ret_mkInt ?_;show wpAny _ _ (if(decide (-(2:Int) ^ 63≤Builtin.Tuple.tupleHashOf (done.map (Tc prog w)))&&decide (Builtin.Tuple.tupleHashOf (done.map (Tc prog w)) < 2 ^ 63))=true then _ else _) Q E _;unfold Pu reduceHash S7 at h;by_cases hr:(decide (-(2:Int) ^ 63≤Builtin.Tuple.tupleHashOf (done.map (Tc prog w)))&&decide (Builtin.Tuple.tupleHashOf (done.map (Tc prog w)) < 2 ^ 63))=true
   ·rw[if_pos hr]
    rw[if_pos hr] at h;exact wpAny_pure (by simpa [Nat.add_assoc] using h)
   ·rw[if_neg hr]
    rw[if_neg hr] at h;exact wpAny_bind (wpAny_rule (wpAny_pure (by simpa [Nat.add_assoc] using h)))
end
end
def Nb(prog:Program)(w:World):HeapKind prog w (List NK) where
 is:=IsNk prog w
 hash:=Pu prog w
 draws:=S7
 room:=fun A=>A.units + 64 < cLine
 inj:=fun hx hy=>hx.inj hy
 keeps:=fun x ho hd hs=>x.keeps ho hd hs
 pyHash:=fun hu hk h=>Jh hu hk h
 eqBool:=fun hu hx hy h=>Jg hu hx hy h
 quiet:=fun hk h=>H6 hk h
def IsLx(h:Heap)(a:Addr)(items:Array Value):Prop:=∃n,IsL h a items n
theorem IsLx.list{h:Heap}{a:Addr}{items:Array Value}(x:IsLx h a items):h.IsList a items:=Exists.elim x fun _ e=>e.isList
mutual
def RdD(h:Heap)(P:Addr→Prop):D→Value→Prop
 |.none,x=>x= .none
 |.bool b,x=>x= .bool b
 |.int i,x=>∃t,x= .int i t
 |.str s,x=>∃t,x= .str s t
 |.list xs,x=>∃a vs,x= .ref a∧¬P a∧IsLx h a vs∧RdDs h P xs vs.toList
 |.tuple xs,x=>∃a o vs n,x= .ref a∧¬P a∧h.get? a=some o∧o.cls= .type "tuple"∧o.data= .seq vs n∧RdDs h P xs vs.toList
 |.dict _,_=>False
def RdDs(h:Heap)(P:Addr→Prop):List D→List Value→Prop
 | [],vs=>vs=[]
 |d::r,vs=>∃v vs',vs=v::vs'∧RdD h P d v∧RdDs h P r vs'
end
section
variable{h h':Heap}{P P':Addr→Prop}{M:Value→Prop}{x:Value}
@[elab_as_elim] theorem RdD.int_e {i:Int} (e:RdD h P (.int i) x) (k:∀t,M (.int i t)):M x:=Exists.elim e fun t e=>e ▸ k t
@[elab_as_elim] theorem RdD.str_e {i:Str} (e:RdD h P (.str i) x) (k:∀t,M (.str i t)):M x:=Exists.elim e fun t e=>e ▸ k t
@[elab_as_elim] theorem RdD.list_e {xs:List D} (e:RdD h P (.list xs) x) (k:∀a vs n,¬P a→IsL h a vs n→RdDs h P xs vs.toList→M (.ref a)):M x:=by
  obtain⟨a,vs,rfl,hp,⟨n,ho⟩,hr⟩:=e;exact k a vs n hp ho hr
@[elab_as_elim] theorem RdD.tup_e {xs:List D} (e:RdD h P (.tuple xs) x) (k:∀a o vs n,¬P a→h.get? a=some o→o.cls= .type "tuple"→o.data= .seq vs n→RdDs h P xs vs.toList→M (.ref a)):M x:=by
  obtain⟨a,o,vs,n,rfl,hp,ho,hc,hd,hr⟩:=e;exact k a o vs n hp ho hc hd hr
@[elab_as_elim] theorem RdDs.nil_e {vs:List Value} (e:RdDs h P [] vs) {M:List Value→Prop} (k:M []):M vs:=by rw[show vs=[] from e];exact k
@[elab_as_elim] theorem RdDs.cons_e {d:D} {r:List D} {vs:List Value} (e:RdDs h P (d::r) vs) {M:List Value→Prop} (k:∀v vs',RdD h P d v→RdDs h P r vs'→M (v::vs')):M vs:=by
  obtain⟨v,vs',rfl,h1,h2⟩:=e;exact k v vs' h1 h2
mutual
theorem RdD.reads:∀{d:D} {x:Value},RdD h P d x→∃as,Reads h x d as
 |.none,x,e=>by rw[show x= .none from e];exact⟨_,Reads.none⟩
 |.bool b,x,e=>by rw[show x= .bool b from e];exact⟨_,Reads.bool b⟩
 |.int i,x,e=>e.int_e fun t=>⟨_,.int i t⟩
 |.str s,x,e=>e.str_e fun t=>⟨_,.str s t⟩
 |.list xs,x,e=>e.list_e fun a vs n _ ho hr=>(RdDs.reads hr).elim fun as q=>⟨_,.list ho rfl rfl q⟩
 |.tuple xs,x,e=>e.tup_e fun a o vs n _ ho hc hd hr=>(RdDs.reads hr).elim fun as q=>⟨_,.tuple ho hc hd q⟩
 |.dict _,x,e=>False.elim e
theorem RdDs.reads:∀{l:List D} {vs:List Value},RdDs h P l vs→∃as,ReadsAll h vs l as
 | [],vs,e=>e.nil_e ⟨_,ReadsAll.nil⟩
 |d::r,vs,e=>e.cons_e fun v vs' h1 h2=>(RdD.reads h1).elim fun as q1=>(RdDs.reads h2).elim fun bs q2=>⟨_,.cons q1 q2⟩
end
structure Stays(h:Heap)(P:Addr→Prop)(h':Heap)(P':Addr→Prop):Prop where
 get:∀b o,¬P b→h.get? b=some o→h'.get? b=some o
 own:∀b o,¬P b→h.get? b=some o→¬P' b
structure Z4(h:Heap)(P:Addr→Prop)(h':Heap)(P':Addr→Prop):Prop where
 get:∀b o vs n,¬P b→h.get? b=some o→o.data= .seq vs n→h'.get? b=some o
 own:∀b o vs n,¬P b→h.get? b=some o→o.data= .seq vs n→¬P' b
theorem Stays.q(k:Stays h P h' P'):Z4 h P h' P':=⟨fun b o _ _ n g _=>k.get b o n g,fun b o _ _ n g _=>k.own b o n g⟩
mutual
theorem RdD.staysQ(k:Z4 h P h' P'):∀{d:D} {x:Value},RdD h P d x→RdD h' P' d x
 |.none,x,e=>e
 |.bool b,x,e=>e
 |.int i,x,e=>e
 |.str s,x,e=>e
 |.list xs,x,e=>e.list_e (M:=fun x=>RdD h' P' (.list xs) x) fun a vs n hp ho hr=>⟨a,vs,rfl,k.own _ _ _ _ hp ho rfl,⟨n,k.get _ _ _ _ hp ho rfl⟩,RdDs.staysQ k hr⟩
 |.tuple xs,x,e=>e.tup_e (M:=fun x=>RdD h' P' (.tuple xs) x) fun a o vs n hp ho hc hd hr=>⟨a,o,vs,n,rfl,k.own _ _ _ _ hp ho hd,k.get _ _ _ _ hp ho hd,hc,hd,RdDs.staysQ k hr⟩
 |.dict _,x,e=>e
theorem RdDs.staysQ(k:Z4 h P h' P'):∀{l:List D} {vs:List Value},RdDs h P l vs→RdDs h' P' l vs
 | [],vs,e=>e
 |d::r,vs,e=>e.cons_e (M:=fun vs=>RdDs h' P' (d::r) vs) fun v vs' h1 h2=>⟨v,vs',rfl,RdD.staysQ k h1,RdDs.staysQ k h2⟩
end
theorem RdD.stays(k:Stays h P h' P'){d:D}{x:Value}(e:RdD h P d x):RdD h' P' d x:=RdD.staysQ k.q e
theorem RdDs.stays(k:Stays h P h' P'){l:List D}{vs:List Value}(e:RdDs h P l vs):RdDs h' P' l vs:=RdDs.staysQ k.q e
theorem RdDs.get{d:D}:∀{i:Nat} {l:List D} {vs:List Value},RdDs h P l vs→l[i]? =some d→∃v,vs[i]? =some v∧RdD h P d v
 |_,[],vs,e,hd=>nn hd
 |0,x::r,vs,e,hd=>e.cons_e fun v vs' h1 h2=>⟨v,rfl,sj hd ▸ h1⟩
 |i + 1,x::r,vs,e,hd=>e.cons_e fun v vs' h1 h2=>RdDs.get (i:=i) h2 hd
theorem RdDs.len:∀{l:List D} {vs:List Value},RdDs h P l vs→vs.length=l.length
 | [],vs,e=>e.nil_e rfl
 |d::r,vs,e=>e.cons_e fun v vs' h1 h2=>congrArg (· + 1) (RdDs.len h2)
theorem RdDs.append:∀{l l':List D} {vs vs':List Value},RdDs h P l vs→RdDs h P l' vs'→RdDs h P (l++l') (vs++vs')
 | [],l',vs,vs',e,e'=>e.nil_e e'
 |d::r,l',vs,vs',e,e'=>e.cons_e fun v us h1 h2=>⟨v,us++vs',rfl,h1,RdDs.append h2 e'⟩
end
set_option genInjectivity false
structure Cx where
 T:Tb
 val:Int→Int
 K:Frag
 nm:Nat→Str
 cl:Nat→Addr
 prog:Program
 wld:World
 slack:Nat
 sta:Nat→Option Addr
 gn:Nat→Str
 fn:Nat→Str
 cn:Nat→Str
 fa:Nat→Addr
 isG:Nat→Bool
abbrev Cx.ν(C:Cx):Int→Int:=vC C.val
abbrev Cx.get(C:Cx)(σ:St)(n:Nat):Option O:=Zj C.T.old σ n
abbrev Rho:=Lc→Addr
def Tz(σ:St)(p:Wd→Prop):Prop:=∃w,σ.w=some w∧p w
def Z2(C:Cx)(σ:St):Lc→Prop
 |.id n=>∃o,C.get σ n=some o∧o≠ .dead
 |.idd n=>∃c vs,C.get σ n=some (.inst c vs)
 |.obj k=>Tz σ fun w=>(Zc w.obj k).isSome
 |.arr k=>Tz σ fun w=>(Zc w.arr k).isSome
 |_=>Tz σ fun _=>True
def X6(σ:St):Lc→Prop
 |.id n=>σ.base≤n
 |.idd n=>σ.base≤n
 |_=>True
def Own(C:Cx)(σ:St)(ρ:Rho)(b:Addr):Prop:=∃l,Z2 C σ l∧X6 σ l∧ρ l=b
def Dom(σ:St):Lc→Prop
 |.id n=>n < σ.next
 |.idd n=>n < σ.next
 |.obj k=>Tz σ fun w=>(Zc w.obj k).isSome
 |.arr k=>Tz σ fun w=>(Zc w.arr k).isSome
 |_=>Tz σ fun _=>True
def VR(C:Cx)(σ:St)(ρ:Rho)(h:Heap):V→Value→Prop
 |.dat d,x=>RdD h (Own C σ ρ) (mD C.ν d) x
 |.loc l,x=>x= .ref (ρ l)∧Dom σ l
def VRs(C:Cx)(σ:St)(ρ:Rho)(h:Heap):List V→List Value→Prop
 | [],xs=>xs=[]
 |v::r,xs=>∃x xs',xs=x::xs'∧VR C σ ρ h v x∧VRs C σ ρ h r xs'
@[elab_as_elim] theorem VRs.nil_e {C:Cx} {σ:St} {ρ:Rho} {h:Heap} {xs:List Value} (e:VRs C σ ρ h [] xs) {M:List Value→Prop} (k:M []):M xs:=by rw[show xs=[] from e];exact k
@[elab_as_elim] theorem VRs.cons_e {C:Cx} {σ:St} {ρ:Rho} {h:Heap} {v:V} {r:List V} {xs:List Value} (e:VRs C σ ρ h (v::r) xs) {M:List Value→Prop} (k:∀x xs',VR C σ ρ h v x→VRs C σ ρ h r xs'→M (x::xs')):M xs:=by
  obtain⟨v,vs',rfl,h1,h2⟩:=e;exact k v vs' h1 h2
section
variable{prog:Program}{w:World}{h:Heap}{P:Addr→Prop}
@[elab_as_elim] theorem T9 {d:D} {xs:List D} {l:List Int} (e:ints? (d::xs)=some l) {M:D→List Int→Prop} (k:∀i r,ints? xs=some r→M (.int i) (i::r)):M d l:=
  Vf (M:=fun d=>M d l) (show dZ d (fun d=>ob (ints? xs) fun ds=>some (d::ds))=some l from e) fun i e=>Za e fun r e1 e=>sj e ▸ k i r e1
theorem Sa:∀{xs:List D} {l:List Int} {vs:List Value},ints? xs=some l→RdDs h P xs vs→ItemsAre (intKind prog w) l vs
 | [],l,vs,e,r=>r.nil_e (sj e ▸ .nil)
 |d::xs,l,vs,e,r=>r.cons_e fun v vs' r1 r2=>T9 (M:=fun d l=>RdD h P d v→ItemsAre (intKind prog w) l (v::vs')) e (fun i l' e1 r1=>r1.int_e fun t=> .cons (by simp[intKind,Value.isInt]) (Sa e1 r2)) r1
theorem Zo7{d:D}{k:NK}{v:Value}(e:dNK d=some k)(r:RdD h P d v):NkIs prog w h k v:=by
 cases d with
 |int n=>exact sj e ▸ r
 |tuple xs=>exact Za (f:=fun l=>some (NK.t l)) e fun l hl e=>sj e ▸ r.tup_e (M:=fun v=>NkIs prog w h (.t l) v) fun a o vs n hp ho hc hd hr=>⟨a,rfl,o,vs,n,ho,hc,hd,Sa hl hr⟩
 |_=>exact nn e
theorem Rz{d:D}{ds:List D}{ks:List NK}(e:Pe (d::ds)=some ks){P:Prop}(k:∀a r,dNK d=some a→Pe ds=some r→ks=a::r→P):P:=
 Za (f:=fun k=>ob (Pe ds) fun l=>some (k::l)) e fun a e1 e=>Za e fun r e2 e=>k a r e1 e2 (sj e).symm
theorem Eh:∀{ds:List D} {ks:List NK} {vs:List Value},Pe ds=some ks→RdDs h P ds vs→NkAll prog w h ks vs
 | [],ks,vs,e,r=>sj e ▸ r
 |d::ds,ks,vs,e,r=>r.cons_e fun v vs' r1 r2=>Rz e fun a l e1 e2 e3=>e3 ▸ ⟨v,vs',rfl,Zo7 e1 r1,Eh e2 r2⟩
theorem Ak{ds:List D}{ks:List NK}{x:Value}(e:Pe ds=some ks)(r:RdD h P (.tuple ds) x):∀{b},x= .ref b→IsNk prog w h ks b:=
 r.tup_e (M:=fun x=>∀{b},x= .ref b→IsNk prog w h ks b) fun a o vs n hp ho hc hd hr {b} eb=>by cases eb;exact⟨o,vs,n,ho,hc,hd,Eh e hr⟩
end
def NkEnts(C:Cx)(σ:St)(ρ:Rho)(h:Heap):List (D×V)→List (List NK×Addr×Value)→Prop
 | [],es=>es=[]
 |(k,v)::r,es=>∃ds ks b x es',es=(ks,b,x)::es'∧k= .tuple ds∧Pe ds=some ks∧Y8 ds=true∧RdD h (Own C σ ρ) (.tuple ds) (.ref b)∧VR C σ ρ h v x∧NkEnts C σ ρ h r es'
def IntEnts(C:Cx)(σ:St)(ρ:Rho)(h:Heap):List (D×V)→List (Int×Value)→Prop
 | [],es=>es=[]
 |(.int k,v)::r,es=>∃x es',es=(k,x)::es'∧Yo k=true∧VR C σ ρ h v x∧IntEnts C σ ρ h r es'
 |_::_,_=>False
def Atts(C:Cx)(σ:St)(ρ:Rho)(h:Heap):List Nat→List V→List DictEntry→Prop
 |_,[],es=>es=[]
 |a::as,v::r,es=>∃e es' t,es=e::es'∧e.key= .str (C.nm a) t∧VR C σ ρ h v e.val∧Atts C σ ρ h as r es'
 | [],_::_,_=>False
def dk(d:D)(A B:Prop):Prop:=match d with
 |.int _=>A
 |_=>B
theorem Ff{d:D}{A B A' B':Prop}(e:dk d A B)(f:A→A')(g:B→B'):dk d A' B':=by
 cases d with
 |int _=>exact f e
 |_=>exact g e
def DictRep(C:Cx)(σ:St)(ρ:Rho)(h:Heap)(a:Addr):List (D×V)→Prop
 | []=>∃o ep,h.get? a=some o∧o.ExactDict∧o.data= .dict #[] ep
 |p::r=>dk p.1 (∃kvs,h.DictOf (intKind C.prog C.wld) a kvs∧IntEnts C σ ρ h (p::r) kvs) (∃xs,h.DictOfH (Nb C.prog C.wld) a xs∧NkEnts C σ ρ h (p::r) xs)
def RepO(C:Cx)(σ:St)(ρ:Rho)(h:Heap)(n:Nat):O→Prop
 |.dl r=>∃items,IsLx h (ρ (.id n)) items∧RdDs h (Own C σ ρ) (mDs C.ν r.reverse) items.toList
 |.rev r=>∃items,IsLx h (ρ (.id n)) items∧VRs C σ ρ h r.reverse items.toList
 |.list r=>∃items,IsLx h (ρ (.id n)) items∧VRs C σ ρ h r items.toList
 |.dict es=>DictRep C σ ρ h (ρ (.id n)) es
 |.inst c vs=>h.get? (ρ (.id n))=some ⟨.ref (C.cl c),some (ρ (.idd n)),.plain,#[]⟩∧
   ∃es ep,h.get? (ρ (.idd n))=some ⟨.type "dict",none,.dict es ep,#[]⟩∧Atts C σ ρ h (C.T.attrs c) vs es.toList
 |.dead=>True
def Nums(ν:Int→Int):List Int→List Value→Prop
 | [],xs=>xs=[]
 |i::r,xs=>∃xs' t,xs= .int (ν i) t::xs'∧Nums ν r xs'
def NumEnts(ν:Int→Int):List (Int×Int)→List (Int×Value)→Prop
 | [],es=>es=[]
 |(k,v)::r,es=>∃t es',es=(k,.int (ν v) t)::es'∧Yo k=true∧NumEnts ν r es'
structure RepW(C:Cx)(σ:St)(ρ:Rho)(h:Heap)(w:Wd):Prop where
 main:∃x,h.DictOf (strKind C.prog C.wld) (ρ .w) [("store",.ref (ρ (.id w.sid))),("objs",.ref (ρ .objs)),("arrays",.ref (ρ .arrs)),("versions",.ref (ρ .vers)),("pair",x)]∧RdD h (Own C σ ρ) (mD C.ν w.pair) x
 objs:∃items,IsLx h (ρ .objs) items∧(items.size:Int)=C.ν w.nobj∧items.size≤w.bnd + C.slack∧∀k fs,Zc w.obj k=some fs→1≤C.ν k∧items[(C.ν k).toNat]? =some (.ref (ρ (.obj k)))
 arrs:∃items,IsLx h (ρ .arrs) items∧(items.size:Int)=C.ν w.narr∧items.size≤w.bnd + C.slack∧∀k xs,Zc w.arr k=some xs→1≤C.ν k∧items[(C.ν k).toNat]? =some (.ref (ρ (.arr k)))
 obj:∀k fs,Zc w.obj k=some fs→fs.length≤100∧∃kvs,h.DictOf (intKind C.prog C.wld) (ρ (.obj k)) kvs∧NumEnts C.ν fs kvs
 arr:∀k xs,Zc w.arr k=some xs→∃items,IsLx h (ρ (.arr k)) items∧Nums C.ν xs items.toList
 vers:∃f,h.IntMap (ρ .vers) f∧h.DictLe (ρ .vers) (w.bnd + C.slack)∧∀k v,Zc w.vers k=some v→(Zc w.obj k).isSome∧∃t,f (C.ν k)=some (.int (C.ν v) t)
 dis:∀k k',(Zc w.obj k).isSome→(Zc w.obj k').isSome→C.ν k=C.ν k'→k=k'
 disA:∀k k',(Zc w.arr k).isSome→(Zc w.arr k').isSome→C.ν k=C.ν k'→k=k'
 sid:w.sid < σ.base
 bd:w.bnd≤200000
 po:1≤C.ν w.nobj
 pa:1≤C.ν w.narr
def Yn(s:Shared):Shared:={s with heap:={},drawn:={},toks:=0}
structure R(C:Cx)(σ:St)(ρ:Rho)(h:Heap):Prop where
 fr:C.K.In h
 rep:∀n o,C.get σ n=some o→RepO C σ ρ h n o
 rw:∀w,σ.w=some w→RepW C σ ρ h w
 inj:∀l l',Z2 C σ l→Z2 C σ l'→ρ l=ρ l'→l=l'
 far:∀l,Z2 C σ l→X6 σ l→C.K.lookup (ρ l)=none
 old:σ.base≤σ.next
 sta:∀n a,C.sta n=some a→ρ (.id n)=a∧n < σ.base
 sysK:(C.K.lookup sysModules).isSome=true
 sys:∀l,Z2 C σ l→ρ l≠sysModules
structure Ext(C:Cx)(σ:St)(ρ:Rho)(s:Shared)(σ':St)(ρ':Rho)(s':Shared):Prop where
 stays:Stays s.heap (Own C σ ρ) s'.heap (Own C σ' ρ')
 dom:∀l,Dom σ l→Dom σ' l
 rho:∀l,Dom σ l→ρ' l=ρ l
 base:σ'.base=σ.base
 rest:Yn s'=Yn s
section
variable{C:Cx}{σ σ' σ'':St}{ρ ρ' ρ'':Rho}{s s' s'':Shared}
theorem Stays.trans{h h' h'':Heap}{P P' P'':Addr→Prop}(a:Stays h P h' P')(b:Stays h' P' h'' P''):Stays h P h'' P'':=
 ⟨fun x o n g=>b.get x o (a.own x o n g) (a.get x o n g),fun x o n g=>b.own x o (a.own x o n g) (a.get x o n g)⟩
theorem Stays.refl(h:Heap)(P:Addr→Prop):Stays h P h P:=⟨fun _ _ _ g=>g,fun _ _ n _=>n⟩
theorem Ext.refl(C:Cx)(σ:St)(ρ:Rho)(s:Shared):Ext C σ ρ s σ ρ s:=⟨.refl ..,fun _ d=>d,fun _ _=>rfl,rfl,rfl⟩
theorem Ext.trans(a:Ext C σ ρ s σ' ρ' s')(b:Ext C σ' ρ' s' σ'' ρ'' s''):Ext C σ ρ s σ'' ρ'' s'':=
 ⟨a.stays.trans b.stays,fun l d=>b.dom l (a.dom l d),fun l d=>(b.rho l (a.dom l d)).trans (a.rho l d),b.base.trans a.base,b.rest.trans a.rest⟩
theorem VR.staysQ{h h':Heap}(k:Z4 h (Own C σ ρ) h' (Own C σ' ρ'))(hd:∀l,Dom σ l→Dom σ' l)(hr:∀l,Dom σ l→ρ' l=ρ l){v:V}{x:Value}(e:VR C σ ρ h v x):VR C σ' ρ' h' v x:=by
 cases v with
 |dat d=>exact RdD.staysQ k e
 |loc l=>exact⟨e.1.trans (by rw[hr l e.2]),hd l e.2⟩
theorem VRs.staysQ{h h':Heap}(k:Z4 h (Own C σ ρ) h' (Own C σ' ρ'))(hd:∀l,Dom σ l→Dom σ' l)(hr:∀l,Dom σ l→ρ' l=ρ l):∀{l:List V} {xs:List Value},VRs C σ ρ h l xs→VRs C σ' ρ' h' l xs
 | [],xs,e=>e
 |v::r,xs,e=>e.cons_e (M:=fun xs=>VRs C σ' ρ' h' (v::r) xs) fun x xs' e2 e3=>⟨x,xs',rfl,e2.staysQ k hd hr,VRs.staysQ k hd hr e3⟩
theorem VR.stays{h h':Heap}(k:Stays h (Own C σ ρ) h' (Own C σ' ρ'))(hd:∀l,Dom σ l→Dom σ' l)(hr:∀l,Dom σ l→ρ' l=ρ l){v:V}{x:Value}(e:VR C σ ρ h v x):VR C σ' ρ' h' v x:=e.staysQ k.q hd hr
theorem VRs.stays{h h':Heap}(k:Stays h (Own C σ ρ) h' (Own C σ' ρ'))(hd:∀l,Dom σ l→Dom σ' l)(hr:∀l,Dom σ l→ρ' l=ρ l){l:List V}{xs:List Value}(e:VRs C σ ρ h l xs):VRs C σ' ρ' h' l xs:=e.staysQ k.q hd hr
theorem VR.ext(k:Ext C σ ρ s σ' ρ' s'){v:V}{x:Value}(e:VR C σ ρ s.heap v x):VR C σ' ρ' s'.heap v x:=e.stays k.stays k.dom k.rho
theorem VRs.ext(k:Ext C σ ρ s σ' ρ' s'){l:List V}{xs:List Value}(e:VRs C σ ρ s.heap l xs):VRs C σ' ρ' s'.heap l xs:=e.stays k.stays k.dom k.rho
@[elab_as_elim] theorem NkEnts.cons_e {h:Heap} {kk:D} {v:V} {r:List (D×V)} {xs:List (List NK×Addr×Value)} (e:NkEnts C σ ρ h ((kk,v)::r) xs) {M:D→List (List NK×Addr×Value)→Prop}
   (k:∀ds ks b x es',Pe ds=some ks→Y8 ds=true→RdD h (Own C σ ρ) (.tuple ds) (.ref b)→VR C σ ρ h v x→NkEnts C σ ρ h r es'→M (.tuple ds) ((ks,b,x)::es')):M kk xs:=by
  obtain⟨ds,ks,b,x,xs',rfl,rfl,e3,e4,e5,e6,e7⟩:=e;exact k ds ks b x xs' e3 e4 e5 e6 e7
@[elab_as_elim] theorem IntEnts.cons_e {h:Heap} {kk:D} {v:V} {r:List (D×V)} {xs:List (Int×Value)} (e:IntEnts C σ ρ h ((kk,v)::r) xs) {M:D→List (Int×Value)→Prop}
   (k:∀i x es',Yo i=true→VR C σ ρ h v x→IntEnts C σ ρ h r es'→M (.int i) ((i,x)::es')):M kk xs:=by
  cases kk with
  |int i=>
   obtain⟨x,xs',rfl,e3,e4,e5⟩:=e;exact k i x xs' e3 e4 e5
  |_=>exact False.elim e
@[elab_as_elim] theorem Atts.cons_e {h:Heap} {as:List Nat} {v:V} {r:List V} {xs:List DictEntry} (e:Atts C σ ρ h as (v::r) xs) {M:List Nat→List DictEntry→Prop}
   (k:∀a as e es' t,e.key= .str (C.nm a) t→VR C σ ρ h v e.val→Atts C σ ρ h as r es'→M (a::as) (e::es')):M as xs:=by
  cases as with
  |nil=>exact False.elim e
  |cons a as=>
   obtain⟨x,xs',t,rfl,e3,e4,e5⟩:=e;exact k a as x xs' t e3 e4 e5
theorem NkEnts.staysQ{h h':Heap}(k:Z4 h (Own C σ ρ) h' (Own C σ' ρ'))(hd:∀l,Dom σ l→Dom σ' l)(hr:∀l,Dom σ l→ρ' l=ρ l):∀{l:List (D×V)} {xs:List (List NK×Addr×Value)},NkEnts C σ ρ h l xs→NkEnts C σ' ρ' h' l xs
 | [],xs,e=>e
 |(kk,v)::r,xs,e=>e.cons_e (M:=fun kk xs=>NkEnts C σ' ρ' h' ((kk,v)::r) xs) fun ds ks b x xs' e3 e4 e5 e6 e7=>⟨ds,ks,b,x,xs',rfl,rfl,e3,e4,e5.staysQ k,e6.staysQ k hd hr,NkEnts.staysQ k hd hr e7⟩
theorem NkEnts.is{h:Heap}:∀{l:List (D×V)} {xs:List (List NK×Addr×Value)},NkEnts C σ ρ h l xs→∀x∈xs,IsNk C.prog C.wld h x.1 x.2.1
 | [],xs,e,x,hx=>by rw[show xs=[] from e] at hx;exact nomatch hx
 |(_,v)::r,xs,e,x,hx=>e.cons_e (M:=fun _ xs=>x∈xs→IsNk C.prog C.wld h x.1 x.2.1) (fun ds ks b y xs' e3 e4 e5 e6 e7 hx=>(List.mem_cons.mp hx).elim (fun e=>e ▸ Ak e3 e5 rfl) (NkEnts.is e7 x)) hx
theorem IntEnts.staysQ{h h':Heap}(k:Z4 h (Own C σ ρ) h' (Own C σ' ρ'))(hd:∀l,Dom σ l→Dom σ' l)(hr:∀l,Dom σ l→ρ' l=ρ l):∀{l:List (D×V)} {xs:List (Int×Value)},IntEnts C σ ρ h l xs→IntEnts C σ' ρ' h' l xs
 | [],xs,e=>e
 |(kk,v)::r,xs,e=>e.cons_e (M:=fun kk xs=>IntEnts C σ' ρ' h' ((kk,v)::r) xs) fun i x xs' e2 e3 e4=>⟨x,xs',rfl,e2,e3.staysQ k hd hr,IntEnts.staysQ k hd hr e4⟩
theorem Atts.staysQ{h h':Heap}(k:Z4 h (Own C σ ρ) h' (Own C σ' ρ'))(hd:∀l,Dom σ l→Dom σ' l)(hr:∀l,Dom σ l→ρ' l=ρ l):∀{l:List V} {as:List Nat} {xs:List DictEntry},Atts C σ ρ h as l xs→Atts C σ' ρ' h' as l xs
 | [],as,xs,e=>by cases as <;> exact e
 |v::r,as,xs,e=>e.cons_e (M:=fun as xs=>Atts C σ' ρ' h' as (v::r) xs) fun a as x xs' t e2 e3 e4=>⟨x,xs',t,rfl,e2,e3.staysQ k hd hr,Atts.staysQ k hd hr e4⟩
theorem Yi{K:Type} [DecidableEq K]{prog:Program}{w:World}{kd:PySem.KeyKind prog w K}{h h':Heap}{a b:Addr}{kvs:List (K×Value)}(e:h.DictOf kd a kvs)(g:∀x,h.get? a=some x→h'.get? b=some x):h'.DictOf kd b kvs:=by
 obtain⟨o,es,ep,a1,a2⟩:=e;exact⟨o,es,ep,g _ a1,a2⟩
theorem DictRep.staysQ{h h':Heap}(k:Z4 h (Own C σ ρ) h' (Own C σ' ρ'))(hd:∀l,Dom σ l→Dom σ' l)(hr:∀l,Dom σ l→ρ' l=ρ l){a:Addr}(g1:∀x,h.get? a=some x→h'.get? a=some x){es:List (D×V)}(e:DictRep C σ ρ h a es):DictRep C σ' ρ' h' a es:=by
 cases es with
 |nil=>exact Exists.elim e fun x e=>Exists.elim e fun ep e=>⟨x,ep,g1 _ e.1,e.2⟩
 |cons p r=>
  exact Ff e (fun e=>Exists.elim e fun kvs e=>⟨kvs,Yi e.1 g1,e.2.staysQ k hd hr⟩) fun e=>by
   obtain⟨xs,⟨o,es',ep,a1,a2,a3,a4,a5,a6⟩,b⟩:=e;exact⟨xs,⟨o,es',ep,g1 _ a1,a2,a3,a4,(b.staysQ k hd hr).is,a6⟩,b.staysQ k hd hr⟩
theorem RepO.staysQ{h h':Heap}(k:Z4 h (Own C σ ρ) h' (Own C σ' ρ'))(hd:∀l,Dom σ l→Dom σ' l)(hr:∀l,Dom σ l→ρ' l=ρ l){n:Nat}{o:O}(hn:n < σ.next)
 (g1:∀x,h.get? (ρ (.id n))=some x→h'.get? (ρ (.id n))=some x) (g2:(∃c vs,o= .inst c vs)→∀x,h.get? (ρ (.idd n))=some x→h'.get? (ρ (.idd n))=some x) (e:RepO C σ ρ h n o):RepO C σ' ρ' h' n o:=by
 have r1:ρ' (.id n)=ρ (.id n):=hr (.id n) hn;have r2:ρ' (.idd n)=ρ (.idd n):=hr (.idd n) hn;have L:∀{items},IsLx h (ρ (.id n)) items→IsLx h' (ρ' (.id n)) items:=fun e=>Exists.elim e fun x hx=>⟨x,r1 ▸ g1 _ hx⟩;cases o with
 |dl r=>exact Exists.elim e fun items e=>⟨items,L e.1,e.2.staysQ k⟩
 |rev r=>exact Exists.elim e fun items e=>⟨items,L e.1,e.2.staysQ k hd hr⟩
 |list r=>exact Exists.elim e fun items e=>⟨items,L e.1,e.2.staysQ k hd hr⟩
 |dead=>trivial
 |inst c vs=>
  obtain⟨a,es,ep,b,q⟩:=e;exact⟨by rw[r1,r2];exact g1 _ a,es,ep,by rw[r2];exact g2 ⟨c,vs,rfl⟩ _ b,q.staysQ k hd hr⟩
 |dict es=>exact DictRep.staysQ k hd hr (r1 ▸ g1) (r1 ▸ e)
theorem NkEnts.stays{h h':Heap}(k:Stays h (Own C σ ρ) h' (Own C σ' ρ'))(hd:∀l,Dom σ l→Dom σ' l)(hr:∀l,Dom σ l→ρ' l=ρ l){l:List (D×V)}{xs:List (List NK×Addr×Value)}(e:NkEnts C σ ρ h l xs):NkEnts C σ' ρ' h' l xs:=e.staysQ k.q hd hr
theorem IntEnts.stays{h h':Heap}(k:Stays h (Own C σ ρ) h' (Own C σ' ρ'))(hd:∀l,Dom σ l→Dom σ' l)(hr:∀l,Dom σ l→ρ' l=ρ l){l:List (D×V)}{xs:List (Int×Value)}(e:IntEnts C σ ρ h l xs):IntEnts C σ' ρ' h' l xs:=e.staysQ k.q hd hr
theorem Atts.stays{h h':Heap}(k:Stays h (Own C σ ρ) h' (Own C σ' ρ'))(hd:∀l,Dom σ l→Dom σ' l)(hr:∀l,Dom σ l→ρ' l=ρ l){as:List Nat}{l:List V}{xs:List DictEntry}(e:Atts C σ ρ h as l xs):Atts C σ' ρ' h' as l xs:=e.staysQ k.q hd hr
theorem RepO.stays{h h':Heap}(k:Stays h (Own C σ ρ) h' (Own C σ' ρ'))(hd:∀l,Dom σ l→Dom σ' l)(hr:∀l,Dom σ l→ρ' l=ρ l){n:Nat}{o:O}(hn:n < σ.next)
 (g1:∀x,h.get? (ρ (.id n))=some x→h'.get? (ρ (.id n))=some x) (g2:(∃c vs,o= .inst c vs)→∀x,h.get? (ρ (.idd n))=some x→h'.get? (ρ (.idd n))=some x) (e:RepO C σ ρ h n o):RepO C σ' ρ' h' n o:=e.staysQ k.q hd hr hn g1 g2
end
set_option genInjectivity true
theorem Wt{m n:Nat}(h:m < n):Nat.blt m n=true:=Nat.ble_eq_true_of_le h
theorem Uo{m n:Nat}(h:¬m < n):Nat.blt m n=false:=Bool.eq_false_iff.mpr fun q=>h (Zz q)
section
variable{old:Nat→Option O}{σ σ':St}{o:O}{n m:Nat}
theorem Y0(h:n < σ.base):Zj old σ n=old n:=by unfold Zj;rw[Wt h]
theorem Xe(h:¬n < σ.base)(h':n < σ.next):Zj old σ n=σ.tmp[σ.next - 1 - n]? :=by unfold Zj;rw[Uo h,Wt h']
theorem Xs(h:¬n < σ.base)(h':¬n < σ.next):Zj old σ n=none:=by unfold Zj;rw[Uo h,Uo h']
theorem Hg(hb:σ.base≤σ.next)(h:Zj old σ n=some o):n < σ.next:=by
 by_cases h1:n < σ.base
 ·exact Nat.lt_of_lt_of_le h1 hb
 ·by_cases h2:n < σ.next
  ·exact h2
  ·rw[Xs h1 h2] at h;exact nn h
theorem Kc(hb:σ.base≤σ.next)(m:Nat):Zj old (Zy σ o).2 m=if m=σ.next then some o else Zj old σ m:=by
 by_cases h1:m=σ.next
 ·rw[if_pos h1,Xe (σ:=(Zy σ o).2) (h1 ▸ Nat.not_lt.mpr hb) (h1 ▸ Nat.lt_succ_self _),h1]
  show(o::σ.tmp)[σ.next + 1 - 1 - σ.next]? =_;rw[Nat.add_sub_cancel,Nat.sub_self];rfl
 ·rw[if_neg h1]
  by_cases h2:m < σ.base
  ·rw[Y0 h2,Y0 (σ:=(Zy σ o).2) h2]
  ·by_cases h3:m < σ.next
   ·rw[Xe h2 h3,Xe (σ:=(Zy σ o).2) h2 (Nat.lt_succ_of_lt h3)]
    show(o::σ.tmp)[σ.next + 1 - 1 - m]? =_;rw[show σ.next + 1 - 1 - m=(σ.next - 1 - m) + 1 by omega];rfl
   ·rw[Xs h2 h3,Xs (σ:=(Zy σ o).2) h2 fun z=>h3 (Nat.lt_of_le_of_ne (Nat.le_of_lt_succ z) h1)]
theorem Th{α:Type}:∀(l:List α) (i j:Nat) (y:α),(Z7 l i y)[j]? =if j=i then(l[i]?).map (fun _=>y) else l[j]?
 | [],i,j,y=>(ite_self none).symm
 |x::r,0,0,y=>rfl
 |x::r,0,j + 1,y=>rfl
 |x::r,i + 1,0,y=>rfl
 |x::r,i + 1,j + 1,y=>(Th r i j y).trans (by rw[List.getElem?_cons_succ,List.getElem?_cons_succ];exact ite_congr (propext Nat.succ_inj.symm) (fun _=>rfl) fun _=>rfl)
theorem Qq{α:Type}:∀(l:List α) (i:Nat) (y:α),(Z7 l i y).length=l.length
 | [],i,y=>rfl
 |x::r,0,y=>rfl
 |x::r,i + 1,y=>congrArg (· + 1) (Qq r i y)
theorem J7(h:X3 σ n o=some σ'){M:St→Prop}(k:¬n < σ.base→n < σ.next→M {σ with tmp:=Z7 σ.tmp (σ.next - 1 - n) o}):M σ':=by
 unfold X3 at h;by_cases h1:n < σ.base
 ·rw[Wt h1] at h;exact nn h
 ·by_cases h2:n < σ.next
  ·rw[Uo h1,Wt h2] at h;exact sj h ▸ k h1 h2
  ·rw[Uo h1,Uo h2] at h;exact nn h
theorem Sl(h:X3 σ n o=some σ'):σ.base≤n∧n < σ.next∧σ'={σ with tmp:=Z7 σ.tmp (σ.next - 1 - n) o}:=J7 (M:=fun σ'=>_∧_∧σ'=_) h fun h1 h2=>⟨Nat.not_lt.mp h1,h2,rfl⟩
theorem R5(h:X3 σ n o=some σ')(hn:∃o',Zj old σ n=some o')(m:Nat):Zj old σ' m=if m=n then some o else Zj old σ m:=
 J7 (M:=fun σ'=>Zj old σ' m=_) h fun h1 h2=>Exists.elim hn fun o' ho'=>by
  rw[Xe h1 h2] at ho';by_cases h4:m < σ.base
  ·rw[if_neg fun e:m=n=>h1 (e ▸ h4),Y0 h4];exact Y0 h4
  ·by_cases h5:m < σ.next
   ·refine(Xe (σ:={σ with tmp:=Z7 σ.tmp (σ.next - 1 - n) o}) h4 h5).trans ?_
    show(Z7 σ.tmp (σ.next - 1 - n) o)[σ.next - 1 - m]? =_;rw[Th,Xe h4 h5];by_cases h3:m=n
    ·rw[h3,if_pos rfl,if_pos rfl,ho'];rfl
    ·rw[if_neg h3,if_neg fun e=>h3 (by omega)]
   ·rw[if_neg fun e:m=n=>h5 (e ▸ h2),Xs h4 h5];exact Xs h4 h5
end
section
variable{C:Cx}{σ σ':St}{ρ ρ':Rho}{s s':Shared}{h h':Heap}{n:Nat}{o:O}{a:Addr}
theorem R.at(r:R C σ ρ h)(e:C.get σ n=some o):n < σ.next:=Hg r.old e
theorem R.dom(r:R C σ ρ h){l:Lc}(e:Z2 C σ l):Dom σ l:=by
 cases l with
 |id n=>obtain⟨o,h1,_⟩:=e;exact r.at h1
 |idd n=>obtain⟨c,vs,h1⟩:=e;exact r.at h1
 |_=>exact e
theorem Ut{K:Type} [DecidableEq K]{prog:Program}{w:World}{kd:PySem.KeyKind prog w K}{kvs:List (K×Value)}(e:h.DictOf kd a kvs):∃x,h.get? a=some x:=e.elim fun x e=>e.elim fun _ e=>e.elim fun _ e=>⟨x,e.1⟩
theorem Mn{items:Array Value}(e:IsLx h a items):∃x,h.get? a=some x:=e.elim fun _ e=>⟨_,e⟩
theorem Wx{items:Array Value}{b:Addr}(e:IsLx h a items)(g:∀x,h.get? a=some x→h'.get? b=some x):IsLx h' b items:=e.elim fun n e=>⟨n,g _ e⟩
theorem Ya3{d:D}{A B P:Prop}(e:dk d A B)(f:A→P)(g:B→P):P:=by
 cases d with
 |int _=>exact f e
 |_=>exact g e
theorem RepO.lt(e:RepO C σ ρ h n o)(hd:o≠ .dead):∃x,h.get? (ρ (.id n))=some x:=by
 cases o with
 |dead=>exact(hd rfl).elim
 |dl _=>exact e.elim fun _ e=>Mn e.1
 |rev _=>exact e.elim fun _ e=>Mn e.1
 |list _=>exact e.elim fun _ e=>Mn e.1
 |inst _ _=>exact⟨_,e.1⟩
 |dict es=>
  cases es with
  |nil=>exact e.elim fun x e=>e.elim fun _ e=>⟨x,e.1⟩
  |cons p r=>exact Ya3 (d:=p.1) e (fun e=>e.elim fun _ e=>Ut e.1) fun e=>e.elim fun _ e=>e.1.elim fun x e=>e.elim fun _ e=>e.elim fun _ e=>⟨x,e.1⟩
section
variable{w:Wd}{P:Prop}(e:RepW C σ ρ h w)
include e
theorem RepW.main_e(k:∀x,h.DictOf (strKind C.prog C.wld) (ρ .w) [("store",.ref (ρ (.id w.sid))),("objs",.ref (ρ .objs)),("arrays",.ref (ρ .arrs)),("versions",.ref (ρ .vers)),("pair",x)]→RdD h (Own C σ ρ) (mD C.ν w.pair) x→P):P:=e.main.elim fun x e=>k x e.1 e.2
theorem RepW.objs_e(k:∀items,IsLx h (ρ .objs) items→(items.size:Int)=C.ν w.nobj→items.size≤w.bnd + C.slack→(∀k fs,Zc w.obj k=some fs→1≤C.ν k∧items[(C.ν k).toNat]? =some (.ref (ρ (.obj k))))→P):P:=by
 obtain⟨items,a,b,c,d⟩:=e.objs;exact k items a b c d
theorem RepW.arrs_e(k:∀items,IsLx h (ρ .arrs) items→(items.size:Int)=C.ν w.narr→items.size≤w.bnd + C.slack→(∀k fs,Zc w.arr k=some fs→1≤C.ν k∧items[(C.ν k).toNat]? =some (.ref (ρ (.arr k))))→P):P:=by
 obtain⟨items,a,b,c,d⟩:=e.arrs;exact k items a b c d
theorem RepW.obj_e{m:Int}{fs:List (Int×Int)}(q:Zc w.obj m=some fs)(k:∀kvs,fs.length≤100→h.DictOf (intKind C.prog C.wld) (ρ (.obj m)) kvs→NumEnts C.ν fs kvs→P):P:=(e.obj m fs q).2.elim fun kvs a=>k kvs (e.obj m fs q).1 a.1 a.2
theorem RepW.arr_e{m:Int}{xs:List Int}(q:Zc w.arr m=some xs)(k:∀items,IsLx h (ρ (.arr m)) items→Nums C.ν xs items.toList→P):P:=(e.arr m xs q).elim fun items a=>k items a.1 a.2
theorem RepW.vers_e(k:∀f,h.IntMap (ρ .vers) f→h.DictLe (ρ .vers) (w.bnd + C.slack)→(∀k v,Zc w.vers k=some v→(Zc w.obj k).isSome∧∃t,f (C.ν k)=some (.int (C.ν v) t))→P):P:=by
 obtain⟨f,a,b,c⟩:=e.vers;exact k f a b c
end
theorem Vx{f:Int→Option Value}{b:Addr}(e:h.IntMap a f)(g:∀x,h.get? a=some x→h'.get? b=some x):h'.IntMap b f:=by
 obtain⟨o,es,ep,g1,rest⟩:=e;exact⟨o,es,ep,g _ g1,rest⟩
theorem Vt{f:Int→Option Value}{b:Addr}{k:Nat}(e:h.IntMap a f)(l:h.DictLe a k)(g:∀x,h.get? a=some x→h'.get? b=some x):h'.DictLe b k:=by
 obtain⟨o,es,ep,g1,rest⟩:=e;intro o' es' ep' ho' hd';rw[g _ g1] at ho';exact l _ _ _ (sj ho' ▸ g1) hd'
theorem R.there(r:R C σ ρ h){l:Lc}(e:Z2 C σ l):∃x,h.get? (ρ l)=some x:=by
 cases l with
 |id n=>exact e.elim fun o e=>(r.rep n o e.1).lt e.2
 |idd n=>exact e.elim fun c e=>e.elim fun vs e=>(r.rep n _ e).2.elim fun _ e=>e.elim fun _ e=>⟨_,e.1⟩
 |w=>exact e.elim fun w e=>(r.rw w e.1).main_e fun _ d _=>Ut d
 |objs=>exact e.elim fun w e=>(r.rw w e.1).objs_e fun _ d _ _ _=>Mn d
 |arrs=>exact e.elim fun w e=>(r.rw w e.1).arrs_e fun _ d _ _ _=>Mn d
 |vers=>exact e.elim fun w e=>(r.rw w e.1).vers_e fun _ d _ _=>d.elim fun x e=>e.elim fun _ e=>e.elim fun _ e=>⟨x,e.1⟩
 |obj k=>exact e.elim fun w e=>Ro e.2 fun fs q=>(r.rw w e.1).obj_e q fun _ _ d _=>Ut d
 |arr k=>exact e.elim fun w e=>Ro e.2 fun fs q=>(r.rw w e.1).arr_e q fun _ d _=>Mn d
theorem Fo{p:Wd→Prop}{w:Wd}(hw:σ.w=some w)(h:p w):Tz σ p:=⟨w,hw,h⟩
theorem Hu{k:Int}{fs:List (Int×Int)}{w:Wd}(hw:σ.w=some w)(q:Zc w.obj k=some fs):Z2 C σ (.obj k):=⟨w,hw,congrArg Option.isSome q⟩
theorem Ht{k:Int}{fs:List Int}{w:Wd}(hw:σ.w=some w)(q:Zc w.arr k=some fs):Z2 C σ (.arr k):=⟨w,hw,congrArg Option.isSome q⟩
theorem RepW.staysQ{w:Wd}(k:Z4 h (Own C σ ρ) h' (Own C σ' ρ'))(hr:∀l,Z2 C σ l→ρ' l=ρ l)(hw:σ.w=some w)(hb:σ'.base=σ.base)
 (hs:ρ' (.id w.sid)=ρ (.id w.sid))
 (g:∀l,Z2 C σ l→(∀n,l≠ .id n)→(∀n,l≠ .idd n)→∀x,h.get? (ρ l)=some x→h'.get? (ρ l)=some x) (e:RepW C σ ρ h w):RepW C σ' ρ' h' w:=by
 have go:∀{l},Z2 C σ l→(∀n,l≠ .id n)→(∀n,l≠ .idd n)→∀x,h.get? (ρ l)=some x→h'.get? (ρ' l)=some x:=fun{l} d a b x q=>hr l d ▸ g l d a b x q;have lw:Z2 C σ .w:=Fo hw trivial;have lo:Z2 C σ .objs:=Fo hw trivial;have la:Z2 C σ .arrs:=Fo hw trivial;have lv:Z2 C σ .vers:=Fo hw trivial
 exact⟨e.main_e fun x d rd=>⟨x,by rw[hr _ lo,hr _ la,hr _ lv,hs];exact Yi d (go lw nofun nofun),rd.staysQ k⟩,
  e.objs_e fun items a b c d=>⟨items,Wx a (go lo nofun nofun),b,c,fun k fs q=>hr _ (Hu hw q) ▸ d k fs q⟩,
  e.arrs_e fun items a b c d=>⟨items,Wx a (go la nofun nofun),b,c,fun k fs q=>hr _ (Ht hw q) ▸ d k fs q⟩,
  fun k fs q=>e.obj_e q fun kvs l d b=>⟨l,kvs,Yi d (go (Hu hw q) nofun nofun),b⟩,
  fun k fs q=>e.arr_e q fun items d b=>⟨items,Wx d (go (Ht hw q) nofun nofun),b⟩,
  e.vers_e fun f a b c=>⟨f,Vx a (go lv nofun nofun),Vt a b (go lv nofun nofun),c⟩,e.dis,e.disA,hb ▸ e.sid,e.bd,e.po,e.pa⟩
theorem RepW.stays{w:Wd}(k:Stays h (Own C σ ρ) h' (Own C σ' ρ'))(hr:∀l,Z2 C σ l→ρ' l=ρ l)(hw:σ.w=some w)(hb:σ'.base=σ.base)
 (hs:ρ' (.id w.sid)=ρ (.id w.sid))
 (g:∀l,Z2 C σ l→(∀n,l≠ .id n)→(∀n,l≠ .idd n)→∀x,h.get? (ρ l)=some x→h'.get? (ρ l)=some x) (e:RepW C σ ρ h w):RepW C σ' ρ' h' w:=e.staysQ k.q hr hw hb hs g
theorem R.loc{L:Addr}(r:R C σ ρ h)(hl:∀l,Z2 C σ l→ρ l≠L)(hK:C.K.lookup L=none)(hn:∀o vs n,h.get? L=some o→o.data≠ .seq vs n)(k:∀b x,b≠L→h.get? b=some x→h'.get? b=some x):R C σ ρ h':=by
 have st:Z4 h (Own C σ ρ) h' (Own C σ ρ):=⟨fun b x vs n _ g e=>k b x (by rintro rfl;exact hn _ _ _ g e) g,fun _ _ _ _ n _ _=>n⟩
 refine⟨fun b x e=>k b x (by rintro rfl;rw[hK] at e;cases e) (r.fr b x e),fun n o e=> ?_,
  fun w e=>(r.rw w e).staysQ st (fun _ _=>rfl) e rfl rfl (fun l d _ _ x g=>k _ x (hl l d) g),r.inj,r.far,r.old,r.sta,r.sysK,r.sys⟩
 by_cases od:o= .dead
 ·subst od;trivial
 ·exact(r.rep n o e).staysQ st (fun _ d=>d) (fun _ _=>rfl) (r.at e) (fun x g=>k _ x (hl _ ⟨o,e,od⟩) g) (fun⟨c,vs,z⟩ x g=>k _ x (hl _ ⟨c,vs,by rw[e,z]⟩) g)
theorem R.grow(r:R C σ ρ h)(k:∀b x,h.get? b=some x→h'.get? b=some x):R C σ ρ h':=by
 have st:Stays h (Own C σ ρ) h' (Own C σ ρ):=⟨fun b x _ g=>k b x g,fun _ _ n _=>n⟩
 exact⟨r.fr.keeps k,fun n o e=>(r.rep n o e).stays st (fun _ d=>d) (fun _ _=>rfl) (r.at e) (fun x g=>k _ x g) (fun _ x g=>k _ x g),
  fun w e=>(r.rw w e).stays st (fun _ _=>rfl) e rfl rfl (fun l _ _ _ x g=>k _ x g),r.inj,r.far,r.old,r.sta,r.sysK,r.sys⟩
theorem Ext.grow(k:∀b x,s.heap.get? b=some x→s'.heap.get? b=some x)(e:Yn s'=Yn s):Ext C σ ρ s σ ρ s':=
 ⟨⟨fun b x _ g=>k b x g,fun _ _ n _=>n⟩,fun _ d=>d,fun _ _=>rfl,rfl,e⟩
theorem R.frag(r:R C σ ρ h)(st:Stays h (Own C σ ρ) h' (Own C σ' ρ')):C.K.In h':=fun a o e=>by
 refine st.get a o ?_ (r.fr a o e);rintro⟨l,l1,l2,rfl⟩;rw[r.far l l1 l2] at e;cases e
def upd(ρ:Rho)(l:Lc)(a:Addr):Rho:=fun x=>if x=l then a else ρ x
theorem R.new(r:R C σ ρ h)(k:∀b x,h.get? b=some x→h'.get? b=some x)(e:σ'=(Zy σ o).2)(hr:∀l,l≠ .id σ.next→l≠ .idd σ.next→ρ' l=ρ l)
 (n1:h.get? (ρ' (.id σ.next))=none) (n2:(∃c vs,o= .inst c vs)→h.get? (ρ' (.idd σ.next))=none∧ρ' (.id σ.next)≠ρ' (.idd σ.next))
 (q:Stays h (Own C σ ρ) h' (Own C σ' ρ')→(∀l,Dom σ l→Dom σ' l)→(∀l,Dom σ l→ρ' l=ρ l)→RepO C σ' ρ' h' σ.next o):R C σ' ρ' h'∧Stays h (Own C σ ρ) h' (Own C σ' ρ')∧(∀l,Dom σ l→Dom σ' l)∧(∀l,Dom σ l→ρ' l=ρ l):=by
 subst e;have hg:∀m,C.get (Zy σ o).2 m=if m=σ.next then some o else C.get σ m:=fun m=>Kc r.old m
 have hdr:∀l,Dom σ l→ρ' l=ρ l:=fun l d=>hr l (by rintro rfl;exact Nat.lt_irrefl _ d) (by rintro rfl;exact Nat.lt_irrefl _ d);have hdd:∀l,Dom σ l→Dom (Zy σ o).2 l:=fun l d=>by
  cases l with
  |id n=>exact Nat.lt_succ_of_lt d
  |idd n=>exact Nat.lt_succ_of_lt d
  |_=>exact d
 have lv:∀l,Z2 C (Zy σ o).2 l→Z2 C σ l∨(l= .id σ.next)∨(l= .idd σ.next∧∃c vs,o= .inst c vs):=fun l d=>by
  cases l with
  |id n=>
   obtain⟨o',d1,d2⟩:=d;rw[hg] at d1;split at d1
   ·rename_i e;exact .inr (.inl (e ▸ rfl))
   ·exact .inl ⟨o',d1,d2⟩
  |idd n=>
   obtain⟨c,vs,d1⟩:=d;rw[hg] at d1;split at d1
   ·rename_i e;cases d1;exact .inr (.inr ⟨e ▸ rfl,c,vs,rfl⟩)
   ·exact .inl ⟨c,vs,d1⟩
  |_=>exact .inl d
 have fresh:∀l,Z2 C (Zy σ o).2 l→¬Z2 C σ l→h.get? (ρ' l)=none:=fun l d nd=>by
  rcases lv l d with e |rfl |⟨rfl,e⟩
  ·exact(nd e).elim
  ·exact n1
  ·exact(n2 e).1
 have st:Stays h (Own C σ ρ) h' (Own C (Zy σ o).2 ρ'):=by
  refine⟨fun b x _ g=>k b x g,fun b x nb g=> ?_⟩;rintro⟨l,d,y,rfl⟩;by_cases dl:Z2 C σ l
  ·refine nb ⟨l,dl,?_,(hdr l (r.dom dl)).symm⟩
   cases l <;> exact y
  ·rw[fresh l d dl] at g;cases g
 refine⟨⟨r.fr.keeps k,fun m o' e=> ?_,fun w e=> ?_,fun l l' d d' e=> ?_,fun l d y=> ?_,Nat.le_succ_of_le r.old,fun n a e=>⟨(hdr (.id n) (Nat.lt_of_lt_of_le (r.sta n a e).2 r.old)).trans (r.sta n a e).1,(r.sta n a e).2⟩,r.sysK,fun l d e=> ?_⟩,st,hdd,hdr⟩
 ·rw[hg] at e
  split at e
  ·rename_i e';cases e;rw[e'];exact q st hdd hdr
  ·exact(r.rep m o' e).stays st hdd hdr (r.at e) (fun x g=>k _ x g) (fun _ x g=>k _ x g)
 ·exact(r.rw w e).stays st (fun l d=>hdr l (r.dom d)) e rfl (hdr _ (Nat.lt_of_lt_of_le (r.rw w e).sid r.old)) (fun l _ _ _ x g=>k _ x g)
 ·by_cases dl:Z2 C σ l
  ·by_cases dl':Z2 C σ l'
   ·rw[hdr l (r.dom dl),hdr l' (r.dom dl')] at e;exact r.inj _ _ dl dl' e
   ·obtain⟨x,hx⟩:=r.there dl
    rw[hdr l (r.dom dl)] at e;have:=fresh l' d' dl';rw[← e,hx] at this;cases this
  ·by_cases dl':Z2 C σ l'
   ·obtain⟨x,hx⟩:=r.there dl'
    rw[hdr l' (r.dom dl')] at e;have:=fresh l d dl;rw[e,hx] at this;cases this
   ·rcases lv l d with z |rfl |⟨rfl,z⟩
    ·exact(dl z).elim
    ·rcases lv l' d' with z' |rfl |⟨rfl,z'⟩
     ·exact(dl' z').elim
     ·rfl
     ·exact((n2 z').2 e).elim
    ·rcases lv l' d' with z' |rfl |⟨rfl,z'⟩
     ·exact(dl' z').elim
     ·exact((n2 z).2 e.symm).elim
     ·rfl
 ·by_cases dl:Z2 C σ l
  ·rw[hdr l (r.dom dl)];exact r.far l dl (by cases l <;> exact y)
  ·have:=fresh l d dl
   cases q:C.K.lookup (ρ' l) with
   |none=>rfl
   |some x=>rw[r.fr _ _ q] at this;cases this
 ·by_cases dl:Z2 C σ l
  ·exact r.sys l dl ((hdr l (r.dom dl)).symm.trans e)
  ·have:=fresh l d dl
   obtain⟨x,hx⟩:=Option.isSome_iff_exists.mp r.sysK;rw[e,r.fr _ _ hx] at this;cases this
theorem R.put(r:R C σ ρ h)(h0:C.get σ n=some o)(hdead:o≠ .dead){o':O}(e:X3 σ n o'=some σ')
 (k:∀b x,b≠ρ (.id n)→((∃c vs,o= .inst c vs)→b≠ρ (.idd n))→h.get? b=some x→h'.get? b=some x)
 (hi:(∃c vs,o'= .inst c vs)→∃c vs,o= .inst c vs) (q:Stays h (Own C σ ρ) h' (Own C σ' ρ)→(∀l,Dom σ l→Dom σ' l)→RepO C σ' ρ h' n o'):
 R C σ' ρ h'∧Stays h (Own C σ ρ) h' (Own C σ' ρ)∧(∀l,Dom σ l→Dom σ' l)∧σ'.base=σ.base:=by
 have hg:∀m,C.get σ' m=if m=n then some o' else C.get σ m:=fun m=>R5 e ⟨o,h0⟩ m
 obtain⟨b1,b2,e'⟩:=Sl e;have hw:σ'.w=σ.w:=by rw[e']
 have hb:σ'.base=σ.base:=by rw[e']
 have hn:σ'.next=σ.next:=by rw[e']
 have ln:Z2 C σ (.id n):=⟨o,h0,hdead⟩;have hdd:∀l,Dom σ l→Dom σ' l:=fun l d=>by
  cases l with
  |id m=>show m < σ'.next;rw[hn];exact d
  |idd m=>show m < σ'.next;rw[hn];exact d
  |_=>show Tz σ' _;unfold Tz;rw[hw];exact d
 have lv:∀l,Z2 C σ' l→Z2 C σ l:=fun l d=>by
  cases l with
  |id m=>
   obtain⟨x,d1,d2⟩:=d;rw[hg] at d1;split at d1
   ·rename_i z;rw[z];exact ln
   ·exact⟨x,d1,d2⟩
  |idd m=>
   obtain⟨c,vs,d1⟩:=d;rw[hg] at d1;split at d1
   ·rename_i z
    cases d1;obtain⟨c',vs',z'⟩:=hi ⟨c,vs,rfl⟩;exact⟨c',vs',by rw[z,h0,z']⟩
   ·exact⟨c,vs,d1⟩
  |_=>show Tz σ _;have d:Tz σ' _:=d;unfold Tz at d ⊢;rw[hw] at d;exact d
 have yg:∀l,X6 σ' l→X6 σ l:=fun l y=>by
  cases l with
  |id m=>show σ.base≤m;rw[← hb];exact y
  |idd m=>show σ.base≤m;rw[← hb];exact y
  |_=>trivial
 have own:∀b,¬Own C σ ρ b→b≠ρ (.id n)∧((∃c vs,o= .inst c vs)→b≠ρ (.idd n)):=fun b nb=>
  ⟨fun z=>nb ⟨.id n,ln,b1,z.symm⟩,fun⟨c,vs,z⟩ z'=>nb ⟨.idd n,⟨c,vs,by rw[h0,z]⟩,b1,z'.symm⟩⟩
 have st:Stays h (Own C σ ρ) h' (Own C σ' ρ):=by
  refine⟨fun b x nb g=>k b x (own b nb).1 (own b nb).2 g,fun b x nb g=> ?_⟩;rintro⟨l,d,y,rfl⟩;exact nb ⟨l,lv l d,yg l y,rfl⟩
 have other:∀l,Z2 C σ l→l≠ .id n→l≠ .idd n→∀x,h.get? (ρ l)=some x→h'.get? (ρ l)=some x:=fun l d z1 z2 x g=>
  k _ x (fun z=>z1 (r.inj _ _ d ln z)) (fun⟨c,vs,w⟩ z=>z2 (r.inj _ _ d ⟨c,vs,by rw[h0,w]⟩ z)) g
 refine⟨⟨r.frag st,fun m x z=> ?_,fun w z=> ?_,fun l l' d d'=>r.inj l l' (lv l d) (lv l' d'),fun l d y=>r.far l (lv l d) (yg l y),by rw[hb,hn];exact r.old,fun n a e=>⟨(r.sta n a e).1,hb ▸ (r.sta n a e).2⟩,r.sysK,fun l d=>r.sys l (lv l d)⟩,st,hdd,hb⟩
 ·rw[hg] at z
  split at z
  ·rename_i z';cases z;rw[z'];exact q st hdd
  ·rename_i z'
   by_cases xd:x= .dead
   ·subst xd;trivial
   refine(r.rep m x z).stays st hdd (fun _ _=>rfl) (r.at z) (fun y g=> ?_) (fun⟨c,vs,u⟩ y g=> ?_)
   ·exact other (.id m) ⟨x,z,xd⟩ (by intro u;cases u;exact z' rfl) nofun y g
   ·exact other (.idd m) ⟨c,vs,by rw[z,u]⟩ nofun (by intro u;cases u;exact z' rfl) y g
 ·rw[hw] at z
  exact(r.rw w z).stays st (fun _ _=>rfl) z hb rfl (fun l d z1 z2=>other l d (z1 n) (z2 n))
theorem R.fresh(r:R C σ ρ h){a:Addr}(ha:h.get? a=none):¬Own C σ ρ a:=by
 rintro⟨l,d,_,e⟩;obtain⟨x,hx⟩:=r.there d;rw[e,ha] at hx;cases hx
theorem Zv(h:Heap):h.get? h.objs.size=none:=by
 cases q:h.get? h.objs.size with
 |none=>rfl
 |some x=>exact absurd (Heap.lt_size q) (Nat.lt_irrefl _)
theorem R.push_id(r:R C σ ρ s.heap){o:O}{ob:Obj}(hi:∀c vs,o≠ .inst c vs)
 (q:Stays s.heap (Own C σ ρ) (s.heap.push ob) (Own C (Zy σ o).2 (upd ρ (.id σ.next) s.heap.objs.size))→(∀l,Dom σ l→Dom (Zy σ o).2 l)→(∀l,Dom σ l→upd ρ (.id σ.next) s.heap.objs.size l=ρ l)→
   RepO C (Zy σ o).2 (upd ρ (.id σ.next) s.heap.objs.size) (s.heap.push ob) σ.next o):
 R C (Zy σ o).2 (upd ρ (.id σ.next) s.heap.objs.size) (s.heap.push ob)∧Ext C σ ρ s (Zy σ o).2 (upd ρ (.id σ.next) s.heap.objs.size) {s with heap:=s.heap.push ob}∧
   VR C (Zy σ o).2 (upd ρ (.id σ.next) s.heap.objs.size) (s.heap.push ob) (Zy σ o).1 (.ref s.heap.objs.size):=by
 obtain⟨a,b,c,e⟩:=r.new (σ':=(Zy σ o).2) (ρ':=upd ρ (.id σ.next) s.heap.objs.size) (o:=o) (h':=s.heap.push ob) (fun b x g=>Heap.get?_push_of_some _ g) rfl (fun l h1 _=>if_neg h1)
  (by rw[show upd ρ (.id σ.next) s.heap.objs.size (.id σ.next)=s.heap.objs.size from if_pos rfl];exact Zv _) (fun⟨c,vs,e⟩=>(hi c vs e).elim) q
 exact⟨a,⟨b,c,e,rfl,rfl⟩,congrArg Value.ref (if_pos rfl).symm,Nat.lt_succ_self _⟩
end
set_option genInjectivity false
noncomputable def kk (k0:BoolOp→List Expr→Pos→Bool) (k1:Expr→Operator→Expr→Pos→Bool) (k2:UnaryOp→Expr→Pos→Bool) (k3:Expr→Expr→Expr→Pos→Bool) (k4:List (Option Expr)→List Expr→Pos→Bool) (k5:Expr→List Comprehension→Scope→Pos→Bool) (k6:Expr→List CmpOp→List Expr→Pos→Bool) (k7:Expr→List Expr→List Keyword→Pos→Bool) (k8:Const→Nat→Pos→Bool) (k9:Expr→Str→Pos→Bool) (k10:Expr→Expr→Pos→Bool) (k11:Str→Pos→Bool) (k12:List Expr→Pos→Bool) (k13:List Expr→Nat→Pos→Bool) (k14:Option Expr→Option Expr→Option Expr→Pos→Bool) (e:Expr):Bool:= @Expr.casesOn (fun _=>Bool) e k0 (fun _ _ _=>false) k1 k2 (fun _ _ _ _=>false) k3 k4 (fun _ _ _=>false) k5 (fun _ _ _ _=>false) (fun _ _ _ _ _=>false) (fun _ _ _ _=>false) (fun _ _=>false) (fun _ _=>false) (fun _ _=>false) k6 k7 (fun _ _ _ _=>false) (fun _ _=>false) k8 k9 k10 (fun _ _=>false) k11 k12 k13 k14
theorem U5{k0:BoolOp→List Expr→Pos→Bool}{k1:Expr→Operator→Expr→Pos→Bool}{k2:UnaryOp→Expr→Pos→Bool}{k3:Expr→Expr→Expr→Pos→Bool}{k4:List (Option Expr)→List Expr→Pos→Bool}{k5:Expr→List Comprehension→Scope→Pos→Bool}{k6:Expr→List CmpOp→List Expr→Pos→Bool}{k7:Expr→List Expr→List Keyword→Pos→Bool}{k8:Const→Nat→Pos→Bool}{k9:Expr→Str→Pos→Bool}{k10:Expr→Expr→Pos→Bool}{k11:Str→Pos→Bool}{k12:List Expr→Pos→Bool}{k13:List Expr→Nat→Pos→Bool}{k14:Option Expr→Option Expr→Option Expr→Pos→Bool}{M:Expr→Prop}{e:Expr}(h:kk k0 k1 k2 k3 k4 k5 k6 k7 k8 k9 k10 k11 k12 k13 k14 e=true)(h0:∀a b c,k0 a b c=true→M (.BoolOp a b c))(h1:∀a b c d,k1 a b c d=true→M (.BinOp a b c d))(h2:∀a b c,k2 a b c=true→M (.UnaryOp a b c))(h3:∀a b c d,k3 a b c d=true→M (.IfExp a b c d))(h4:∀a b c,k4 a b c=true→M (.Dict a b c))(h5:∀a b c d,k5 a b c d=true→M (.ListComp a b c d))(h6:∀a b c d,k6 a b c d=true→M (.Compare a b c d))(h7:∀a b c d,k7 a b c d=true→M (.Call a b c d))(h8:∀a b c,k8 a b c=true→M (.Constant a b c))(h9:∀a b c,k9 a b c=true→M (.Attribute a b c))(h10:∀a b c,k10 a b c=true→M (.Subscript a b c))(h11:∀a b,k11 a b=true→M (.Name a b))(h12:∀a b,k12 a b=true→M (.List a b))(h13:∀a b c,k13 a b c=true→M (.Tuple a b c))(h14:∀a b c d,k14 a b c d=true→M (.Slice a b c d)):M e:=by
 cases e with
 |BoolOp a b c=>exact h0 _ _ _ h
 |BinOp a b c d=>exact h1 _ _ _ _ h
 |UnaryOp a b c=>exact h2 _ _ _ h
 |IfExp a b c d=>exact h3 _ _ _ _ h
 |Dict a b c=>exact h4 _ _ _ h
 |ListComp a b c d=>exact h5 _ _ _ _ h
 |Compare a b c d=>exact h6 _ _ _ _ h
 |Call a b c d=>exact h7 _ _ _ _ h
 |Constant a b c=>exact h8 _ _ _ h
 |Attribute a b c=>exact h9 _ _ _ h
 |Subscript a b c=>exact h10 _ _ _ h
 |Name a b=>exact h11 _ _ h
 |List a b=>exact h12 _ _ h
 |Tuple a b c=>exact h13 _ _ _ h
 |Slice a b c d=>exact h14 _ _ _ _ h
 |_=>exact nf h
noncomputable def Zqi (e:Expr) (k:BoolOp→List Expr→Pos→Bool):Bool:=kk k (fun _ _ _ _=>false) (fun _ _ _=>false) (fun _ _ _ _=>false) (fun _ _ _=>false) (fun _ _ _ _=>false) (fun _ _ _ _=>false) (fun _ _ _ _=>false) (fun _ _ _=>false) (fun _ _ _=>false) (fun _ _ _=>false) (fun _ _=>false) (fun _ _=>false) (fun _ _ _=>false) (fun _ _ _ _=>false) e
@[elab_as_elim] theorem Zg8 {M:Expr→Prop} {e:Expr} {k:BoolOp→List Expr→Pos→Bool} (h:Zqi e k=true) (f:∀a b c,k a b c=true→M (.BoolOp a b c)):M e:=U5 h f (fun _ _ _ _ h=>nf h) (fun _ _ _ h=>nf h) (fun _ _ _ _ h=>nf h) (fun _ _ _ h=>nf h) (fun _ _ _ _ h=>nf h) (fun _ _ _ _ h=>nf h) (fun _ _ _ _ h=>nf h) (fun _ _ _ h=>nf h) (fun _ _ _ h=>nf h) (fun _ _ _ h=>nf h) (fun _ _ h=>nf h) (fun _ _ h=>nf h) (fun _ _ _ h=>nf h) (fun _ _ _ _ h=>nf h)
noncomputable def Pj (e:Expr) (k:Expr→Operator→Expr→Pos→Bool):Bool:=kk (fun _ _ _=>false) k (fun _ _ _=>false) (fun _ _ _ _=>false) (fun _ _ _=>false) (fun _ _ _ _=>false) (fun _ _ _ _=>false) (fun _ _ _ _=>false) (fun _ _ _=>false) (fun _ _ _=>false) (fun _ _ _=>false) (fun _ _=>false) (fun _ _=>false) (fun _ _ _=>false) (fun _ _ _ _=>false) e
@[elab_as_elim] theorem Wv {M:Expr→Prop} {e:Expr} {k:Expr→Operator→Expr→Pos→Bool} (h:Pj e k=true) (f:∀a b c d,k a b c d=true→M (.BinOp a b c d)):M e:=U5 h (fun _ _ _ h=>nf h) f (fun _ _ _ h=>nf h) (fun _ _ _ _ h=>nf h) (fun _ _ _ h=>nf h) (fun _ _ _ _ h=>nf h) (fun _ _ _ _ h=>nf h) (fun _ _ _ _ h=>nf h) (fun _ _ _ h=>nf h) (fun _ _ _ h=>nf h) (fun _ _ _ h=>nf h) (fun _ _ h=>nf h) (fun _ _ h=>nf h) (fun _ _ _ h=>nf h) (fun _ _ _ _ h=>nf h)
noncomputable def kUn (e:Expr) (k:UnaryOp→Expr→Pos→Bool):Bool:=kk (fun _ _ _=>false) (fun _ _ _ _=>false) k (fun _ _ _ _=>false) (fun _ _ _=>false) (fun _ _ _ _=>false) (fun _ _ _ _=>false) (fun _ _ _ _=>false) (fun _ _ _=>false) (fun _ _ _=>false) (fun _ _ _=>false) (fun _ _=>false) (fun _ _=>false) (fun _ _ _=>false) (fun _ _ _ _=>false) e
@[elab_as_elim] theorem Zgk {M:Expr→Prop} {e:Expr} {k:UnaryOp→Expr→Pos→Bool} (h:kUn e k=true) (f:∀a b c,k a b c=true→M (.UnaryOp a b c)):M e:=U5 h (fun _ _ _ h=>nf h) (fun _ _ _ _ h=>nf h) f (fun _ _ _ _ h=>nf h) (fun _ _ _ h=>nf h) (fun _ _ _ _ h=>nf h) (fun _ _ _ _ h=>nf h) (fun _ _ _ _ h=>nf h) (fun _ _ _ h=>nf h) (fun _ _ _ h=>nf h) (fun _ _ _ h=>nf h) (fun _ _ h=>nf h) (fun _ _ h=>nf h) (fun _ _ _ h=>nf h) (fun _ _ _ _ h=>nf h)
noncomputable def Zqj (e:Expr) (k:Expr→Expr→Expr→Pos→Bool):Bool:=kk (fun _ _ _=>false) (fun _ _ _ _=>false) (fun _ _ _=>false) k (fun _ _ _=>false) (fun _ _ _ _=>false) (fun _ _ _ _=>false) (fun _ _ _ _=>false) (fun _ _ _=>false) (fun _ _ _=>false) (fun _ _ _=>false) (fun _ _=>false) (fun _ _=>false) (fun _ _ _=>false) (fun _ _ _ _=>false) e
@[elab_as_elim] theorem Zgg {M:Expr→Prop} {e:Expr} {k:Expr→Expr→Expr→Pos→Bool} (h:Zqj e k=true) (f:∀a b c d,k a b c d=true→M (.IfExp a b c d)):M e:=U5 h (fun _ _ _ h=>nf h) (fun _ _ _ _ h=>nf h) (fun _ _ _ h=>nf h) f (fun _ _ _ h=>nf h) (fun _ _ _ _ h=>nf h) (fun _ _ _ _ h=>nf h) (fun _ _ _ _ h=>nf h) (fun _ _ _ h=>nf h) (fun _ _ _ h=>nf h) (fun _ _ _ h=>nf h) (fun _ _ h=>nf h) (fun _ _ h=>nf h) (fun _ _ _ h=>nf h) (fun _ _ _ _ h=>nf h)
noncomputable def S4 (e:Expr) (k:List (Option Expr)→List Expr→Pos→Bool):Bool:=kk (fun _ _ _=>false) (fun _ _ _ _=>false) (fun _ _ _=>false) (fun _ _ _ _=>false) k (fun _ _ _ _=>false) (fun _ _ _ _=>false) (fun _ _ _ _=>false) (fun _ _ _=>false) (fun _ _ _=>false) (fun _ _ _=>false) (fun _ _=>false) (fun _ _=>false) (fun _ _ _=>false) (fun _ _ _ _=>false) e
@[elab_as_elim] theorem S5 {M:Expr→Prop} {e:Expr} {k:List (Option Expr)→List Expr→Pos→Bool} (h:S4 e k=true) (f:∀a b c,k a b c=true→M (.Dict a b c)):M e:=U5 h (fun _ _ _ h=>nf h) (fun _ _ _ _ h=>nf h) (fun _ _ _ h=>nf h) (fun _ _ _ _ h=>nf h) f (fun _ _ _ _ h=>nf h) (fun _ _ _ _ h=>nf h) (fun _ _ _ _ h=>nf h) (fun _ _ _ h=>nf h) (fun _ _ _ h=>nf h) (fun _ _ _ h=>nf h) (fun _ _ h=>nf h) (fun _ _ h=>nf h) (fun _ _ _ h=>nf h) (fun _ _ _ _ h=>nf h)
noncomputable def kLC (e:Expr) (k:Expr→List Comprehension→Scope→Pos→Bool):Bool:=kk (fun _ _ _=>false) (fun _ _ _ _=>false) (fun _ _ _=>false) (fun _ _ _ _=>false) (fun _ _ _=>false) k (fun _ _ _ _=>false) (fun _ _ _ _=>false) (fun _ _ _=>false) (fun _ _ _=>false) (fun _ _ _=>false) (fun _ _=>false) (fun _ _=>false) (fun _ _ _=>false) (fun _ _ _ _=>false) e
@[elab_as_elim] theorem Zgh {M:Expr→Prop} {e:Expr} {k:Expr→List Comprehension→Scope→Pos→Bool} (h:kLC e k=true) (f:∀a b c d,k a b c d=true→M (.ListComp a b c d)):M e:=U5 h (fun _ _ _ h=>nf h) (fun _ _ _ _ h=>nf h) (fun _ _ _ h=>nf h) (fun _ _ _ _ h=>nf h) (fun _ _ _ h=>nf h) f (fun _ _ _ _ h=>nf h) (fun _ _ _ _ h=>nf h) (fun _ _ _ h=>nf h) (fun _ _ _ h=>nf h) (fun _ _ _ h=>nf h) (fun _ _ h=>nf h) (fun _ _ h=>nf h) (fun _ _ _ h=>nf h) (fun _ _ _ _ h=>nf h)
noncomputable def Zga (e:Expr) (k:Expr→List CmpOp→List Expr→Pos→Bool):Bool:=kk (fun _ _ _=>false) (fun _ _ _ _=>false) (fun _ _ _=>false) (fun _ _ _ _=>false) (fun _ _ _=>false) (fun _ _ _ _=>false) k (fun _ _ _ _=>false) (fun _ _ _=>false) (fun _ _ _=>false) (fun _ _ _=>false) (fun _ _=>false) (fun _ _=>false) (fun _ _ _=>false) (fun _ _ _ _=>false) e
@[elab_as_elim] theorem Fy {M:Expr→Prop} {e:Expr} {k:Expr→List CmpOp→List Expr→Pos→Bool} (h:Zga e k=true) (f:∀a b c d,k a b c d=true→M (.Compare a b c d)):M e:=U5 h (fun _ _ _ h=>nf h) (fun _ _ _ _ h=>nf h) (fun _ _ _ h=>nf h) (fun _ _ _ _ h=>nf h) (fun _ _ _ h=>nf h) (fun _ _ _ _ h=>nf h) f (fun _ _ _ _ h=>nf h) (fun _ _ _ h=>nf h) (fun _ _ _ h=>nf h) (fun _ _ _ h=>nf h) (fun _ _ h=>nf h) (fun _ _ h=>nf h) (fun _ _ _ h=>nf h) (fun _ _ _ _ h=>nf h)
noncomputable def Pk (e:Expr) (k:Expr→List Expr→List Keyword→Pos→Bool):Bool:=kk (fun _ _ _=>false) (fun _ _ _ _=>false) (fun _ _ _=>false) (fun _ _ _ _=>false) (fun _ _ _=>false) (fun _ _ _ _=>false) (fun _ _ _ _=>false) k (fun _ _ _=>false) (fun _ _ _=>false) (fun _ _ _=>false) (fun _ _=>false) (fun _ _=>false) (fun _ _ _=>false) (fun _ _ _ _=>false) e
@[elab_as_elim] theorem U1 {M:Expr→Prop} {e:Expr} {k:Expr→List Expr→List Keyword→Pos→Bool} (h:Pk e k=true) (f:∀a b c d,k a b c d=true→M (.Call a b c d)):M e:=U5 h (fun _ _ _ h=>nf h) (fun _ _ _ _ h=>nf h) (fun _ _ _ h=>nf h) (fun _ _ _ _ h=>nf h) (fun _ _ _ h=>nf h) (fun _ _ _ _ h=>nf h) (fun _ _ _ _ h=>nf h) f (fun _ _ _ h=>nf h) (fun _ _ _ h=>nf h) (fun _ _ _ h=>nf h) (fun _ _ h=>nf h) (fun _ _ h=>nf h) (fun _ _ _ h=>nf h) (fun _ _ _ _ h=>nf h)
noncomputable def R9 (e:Expr) (k:Const→Nat→Pos→Bool):Bool:=kk (fun _ _ _=>false) (fun _ _ _ _=>false) (fun _ _ _=>false) (fun _ _ _ _=>false) (fun _ _ _=>false) (fun _ _ _ _=>false) (fun _ _ _ _=>false) (fun _ _ _ _=>false) k (fun _ _ _=>false) (fun _ _ _=>false) (fun _ _=>false) (fun _ _=>false) (fun _ _ _=>false) (fun _ _ _ _=>false) e
@[elab_as_elim] theorem Xh {M:Expr→Prop} {e:Expr} {k:Const→Nat→Pos→Bool} (h:R9 e k=true) (f:∀a b c,k a b c=true→M (.Constant a b c)):M e:=U5 h (fun _ _ _ h=>nf h) (fun _ _ _ _ h=>nf h) (fun _ _ _ h=>nf h) (fun _ _ _ _ h=>nf h) (fun _ _ _ h=>nf h) (fun _ _ _ _ h=>nf h) (fun _ _ _ _ h=>nf h) (fun _ _ _ _ h=>nf h) f (fun _ _ _ h=>nf h) (fun _ _ _ h=>nf h) (fun _ _ h=>nf h) (fun _ _ h=>nf h) (fun _ _ _ h=>nf h) (fun _ _ _ _ h=>nf h)
noncomputable def Fw (e:Expr) (k:Expr→Str→Pos→Bool):Bool:=kk (fun _ _ _=>false) (fun _ _ _ _=>false) (fun _ _ _=>false) (fun _ _ _ _=>false) (fun _ _ _=>false) (fun _ _ _ _=>false) (fun _ _ _ _=>false) (fun _ _ _ _=>false) (fun _ _ _=>false) k (fun _ _ _=>false) (fun _ _=>false) (fun _ _=>false) (fun _ _ _=>false) (fun _ _ _ _=>false) e
@[elab_as_elim] theorem Ko {M:Expr→Prop} {e:Expr} {k:Expr→Str→Pos→Bool} (h:Fw e k=true) (f:∀a b c,k a b c=true→M (.Attribute a b c)):M e:=U5 h (fun _ _ _ h=>nf h) (fun _ _ _ _ h=>nf h) (fun _ _ _ h=>nf h) (fun _ _ _ _ h=>nf h) (fun _ _ _ h=>nf h) (fun _ _ _ _ h=>nf h) (fun _ _ _ _ h=>nf h) (fun _ _ _ _ h=>nf h) (fun _ _ _ h=>nf h) f (fun _ _ _ h=>nf h) (fun _ _ h=>nf h) (fun _ _ h=>nf h) (fun _ _ _ h=>nf h) (fun _ _ _ _ h=>nf h)
noncomputable def Uk (e:Expr) (k:Expr→Expr→Pos→Bool):Bool:=kk (fun _ _ _=>false) (fun _ _ _ _=>false) (fun _ _ _=>false) (fun _ _ _ _=>false) (fun _ _ _=>false) (fun _ _ _ _=>false) (fun _ _ _ _=>false) (fun _ _ _ _=>false) (fun _ _ _=>false) (fun _ _ _=>false) k (fun _ _=>false) (fun _ _=>false) (fun _ _ _=>false) (fun _ _ _ _=>false) e
@[elab_as_elim] theorem We {M:Expr→Prop} {e:Expr} {k:Expr→Expr→Pos→Bool} (h:Uk e k=true) (f:∀a b c,k a b c=true→M (.Subscript a b c)):M e:=U5 h (fun _ _ _ h=>nf h) (fun _ _ _ _ h=>nf h) (fun _ _ _ h=>nf h) (fun _ _ _ _ h=>nf h) (fun _ _ _ h=>nf h) (fun _ _ _ _ h=>nf h) (fun _ _ _ _ h=>nf h) (fun _ _ _ _ h=>nf h) (fun _ _ _ h=>nf h) (fun _ _ _ h=>nf h) f (fun _ _ h=>nf h) (fun _ _ h=>nf h) (fun _ _ _ h=>nf h) (fun _ _ _ _ h=>nf h)
noncomputable def kNm (e:Expr) (k:Str→Pos→Bool):Bool:=kk (fun _ _ _=>false) (fun _ _ _ _=>false) (fun _ _ _=>false) (fun _ _ _ _=>false) (fun _ _ _=>false) (fun _ _ _ _=>false) (fun _ _ _ _=>false) (fun _ _ _ _=>false) (fun _ _ _=>false) (fun _ _ _=>false) (fun _ _ _=>false) k (fun _ _=>false) (fun _ _ _=>false) (fun _ _ _ _=>false) e
@[elab_as_elim] theorem Y2 {M:Expr→Prop} {e:Expr} {k:Str→Pos→Bool} (h:kNm e k=true) (f:∀a b,k a b=true→M (.Name a b)):M e:=U5 h (fun _ _ _ h=>nf h) (fun _ _ _ _ h=>nf h) (fun _ _ _ h=>nf h) (fun _ _ _ _ h=>nf h) (fun _ _ _ h=>nf h) (fun _ _ _ _ h=>nf h) (fun _ _ _ _ h=>nf h) (fun _ _ _ _ h=>nf h) (fun _ _ _ h=>nf h) (fun _ _ _ h=>nf h) (fun _ _ _ h=>nf h) f (fun _ _ h=>nf h) (fun _ _ _ h=>nf h) (fun _ _ _ _ h=>nf h)
noncomputable def Zgi (e:Expr) (k:List Expr→Pos→Bool):Bool:=kk (fun _ _ _=>false) (fun _ _ _ _=>false) (fun _ _ _=>false) (fun _ _ _ _=>false) (fun _ _ _=>false) (fun _ _ _ _=>false) (fun _ _ _ _=>false) (fun _ _ _ _=>false) (fun _ _ _=>false) (fun _ _ _=>false) (fun _ _ _=>false) (fun _ _=>false) k (fun _ _ _=>false) (fun _ _ _ _=>false) e
@[elab_as_elim] theorem F1 {M:Expr→Prop} {e:Expr} {k:List Expr→Pos→Bool} (h:Zgi e k=true) (f:∀a b,k a b=true→M (.List a b)):M e:=U5 h (fun _ _ _ h=>nf h) (fun _ _ _ _ h=>nf h) (fun _ _ _ h=>nf h) (fun _ _ _ _ h=>nf h) (fun _ _ _ h=>nf h) (fun _ _ _ _ h=>nf h) (fun _ _ _ _ h=>nf h) (fun _ _ _ _ h=>nf h) (fun _ _ _ h=>nf h) (fun _ _ _ h=>nf h) (fun _ _ _ h=>nf h) (fun _ _ h=>nf h) f (fun _ _ _ h=>nf h) (fun _ _ _ _ h=>nf h)
noncomputable def Mk (e:Expr) (k:List Expr→Nat→Pos→Bool):Bool:=kk (fun _ _ _=>false) (fun _ _ _ _=>false) (fun _ _ _=>false) (fun _ _ _ _=>false) (fun _ _ _=>false) (fun _ _ _ _=>false) (fun _ _ _ _=>false) (fun _ _ _ _=>false) (fun _ _ _=>false) (fun _ _ _=>false) (fun _ _ _=>false) (fun _ _=>false) (fun _ _=>false) k (fun _ _ _ _=>false) e
@[elab_as_elim] theorem Kt {M:Expr→Prop} {e:Expr} {k:List Expr→Nat→Pos→Bool} (h:Mk e k=true) (f:∀a b c,k a b c=true→M (.Tuple a b c)):M e:=U5 h (fun _ _ _ h=>nf h) (fun _ _ _ _ h=>nf h) (fun _ _ _ h=>nf h) (fun _ _ _ _ h=>nf h) (fun _ _ _ h=>nf h) (fun _ _ _ _ h=>nf h) (fun _ _ _ _ h=>nf h) (fun _ _ _ _ h=>nf h) (fun _ _ _ h=>nf h) (fun _ _ _ h=>nf h) (fun _ _ _ h=>nf h) (fun _ _ h=>nf h) (fun _ _ h=>nf h) f (fun _ _ _ _ h=>nf h)
noncomputable def F3 (e:Expr) (k:Option Expr→Option Expr→Option Expr→Pos→Bool):Bool:=kk (fun _ _ _=>false) (fun _ _ _ _=>false) (fun _ _ _=>false) (fun _ _ _ _=>false) (fun _ _ _=>false) (fun _ _ _ _=>false) (fun _ _ _ _=>false) (fun _ _ _ _=>false) (fun _ _ _=>false) (fun _ _ _=>false) (fun _ _ _=>false) (fun _ _=>false) (fun _ _=>false) (fun _ _ _=>false) k e
@[elab_as_elim] theorem Ks {M:Expr→Prop} {e:Expr} {k:Option Expr→Option Expr→Option Expr→Pos→Bool} (h:F3 e k=true) (f:∀a b c d,k a b c d=true→M (.Slice a b c d)):M e:=U5 h (fun _ _ _ h=>nf h) (fun _ _ _ _ h=>nf h) (fun _ _ _ h=>nf h) (fun _ _ _ _ h=>nf h) (fun _ _ _ h=>nf h) (fun _ _ _ _ h=>nf h) (fun _ _ _ _ h=>nf h) (fun _ _ _ _ h=>nf h) (fun _ _ _ h=>nf h) (fun _ _ _ h=>nf h) (fun _ _ _ h=>nf h) (fun _ _ h=>nf h) (fun _ _ h=>nf h) (fun _ _ _ h=>nf h) f
noncomputable def ks (k0:Option Expr→Pos→Bool) (k1:List Expr→Expr→Pos→Bool) (k2:Expr→Operator→Expr→Pos→Bool) (k3:Expr→Expr→List Stmt→List Stmt→Pos→Bool) (k4:Expr→List Stmt→List Stmt→Pos→Bool) (k5:Expr→Pos→Bool) (k6:Pos→Bool) (e:Stmt):Bool:= @Stmt.casesOn (fun _=>Bool) e (fun _ _ _ _ _ _ _ _ _ _=>false) (fun _ _ _ _ _ _ _ _ _ _=>false) (fun _ _ _ _ _ _ _ _ _ _ _=>false) k0 (fun _ _=>false) k1 (fun _ _ _ _ _ _ _=>false) k2 (fun _ _ _ _ _=>false) k3 (fun _ _ _ _ _=>false) (fun _ _ _ _=>false) k4 (fun _ _ _=>false) (fun _ _ _=>false) (fun _ _ _=>false) (fun _ _ _=>false) (fun _ _ _ _ _=>false) (fun _ _ _ _ _=>false) (fun _ _ _=>false) (fun _ _=>false) (fun _ _ _ _=>false) (fun _ _=>false) (fun _ _=>false) k5 k6 (fun _=>false) (fun _=>false)
theorem C9{k0:Option Expr→Pos→Bool}{k1:List Expr→Expr→Pos→Bool}{k2:Expr→Operator→Expr→Pos→Bool}{k3:Expr→Expr→List Stmt→List Stmt→Pos→Bool}{k4:Expr→List Stmt→List Stmt→Pos→Bool}{k5:Expr→Pos→Bool}{k6:Pos→Bool}{M:Stmt→Prop}{e:Stmt}(h:ks k0 k1 k2 k3 k4 k5 k6 e=true)(h0:∀a b,k0 a b=true→M (.Return a b))(h1:∀a b c,k1 a b c=true→M (.Assign a b c))(h2:∀a b c d,k2 a b c d=true→M (.AugAssign a b c d))(h3:∀a b c d e,k3 a b c d e=true→M (.For a b c d e))(h4:∀a b c d,k4 a b c d=true→M (.If a b c d))(h5:∀a b,k5 a b=true→M (.Expr a b))(h6:∀a,k6 a=true→M (.Pass a)):M e:=by
 cases e with
 |Return a b=>exact h0 _ _ h
 |Assign a b c=>exact h1 _ _ _ h
 |AugAssign a b c d=>exact h2 _ _ _ _ h
 |For a b c d e=>exact h3 _ _ _ _ _ h
 |If a b c d=>exact h4 _ _ _ _ h
 |Expr a b=>exact h5 _ _ h
 |Pass a=>exact h6 _ h
 |_=>exact nf h
noncomputable def F2 (e:Stmt) (k:Option Expr→Pos→Bool):Bool:=ks k (fun _ _ _=>false) (fun _ _ _ _=>false) (fun _ _ _ _ _=>false) (fun _ _ _ _=>false) (fun _ _=>false) (fun _=>false) e
@[elab_as_elim] theorem Kr {M:Stmt→Prop} {e:Stmt} {k:Option Expr→Pos→Bool} (h:F2 e k=true) (f:∀a b,k a b=true→M (.Return a b)):M e:=C9 h f (fun _ _ _ h=>nf h) (fun _ _ _ _ h=>nf h) (fun _ _ _ _ _ h=>nf h) (fun _ _ _ _ h=>nf h) (fun _ _ h=>nf h) (fun _ h=>nf h)
noncomputable def Sb (e:Stmt) (k:List Expr→Expr→Pos→Bool):Bool:=ks (fun _ _=>false) k (fun _ _ _ _=>false) (fun _ _ _ _ _=>false) (fun _ _ _ _=>false) (fun _ _=>false) (fun _=>false) e
@[elab_as_elim] theorem Wb {M:Stmt→Prop} {e:Stmt} {k:List Expr→Expr→Pos→Bool} (h:Sb e k=true) (f:∀a b c,k a b c=true→M (.Assign a b c)):M e:=C9 h (fun _ _ h=>nf h) f (fun _ _ _ _ h=>nf h) (fun _ _ _ _ _ h=>nf h) (fun _ _ _ _ h=>nf h) (fun _ _ h=>nf h) (fun _ h=>nf h)
noncomputable def C1 (e:Stmt) (k:Expr→Operator→Expr→Pos→Bool):Bool:=ks (fun _ _=>false) (fun _ _ _=>false) k (fun _ _ _ _ _=>false) (fun _ _ _ _=>false) (fun _ _=>false) (fun _=>false) e
@[elab_as_elim] theorem Fx {M:Stmt→Prop} {e:Stmt} {k:Expr→Operator→Expr→Pos→Bool} (h:C1 e k=true) (f:∀a b c d,k a b c d=true→M (.AugAssign a b c d)):M e:=C9 h (fun _ _ h=>nf h) (fun _ _ _ h=>nf h) f (fun _ _ _ _ _ h=>nf h) (fun _ _ _ _ h=>nf h) (fun _ _ h=>nf h) (fun _ h=>nf h)
noncomputable def Fz (e:Stmt) (k:Expr→Expr→List Stmt→List Stmt→Pos→Bool):Bool:=ks (fun _ _=>false) (fun _ _ _=>false) (fun _ _ _ _=>false) k (fun _ _ _ _=>false) (fun _ _=>false) (fun _=>false) e
@[elab_as_elim] theorem Kq {M:Stmt→Prop} {e:Stmt} {k:Expr→Expr→List Stmt→List Stmt→Pos→Bool} (h:Fz e k=true) (f:∀a b c d e,k a b c d e=true→M (.For a b c d e)):M e:=C9 h (fun _ _ h=>nf h) (fun _ _ _ h=>nf h) (fun _ _ _ _ h=>nf h) f (fun _ _ _ _ h=>nf h) (fun _ _ h=>nf h) (fun _ h=>nf h)
noncomputable def kIf (e:Stmt) (k:Expr→List Stmt→List Stmt→Pos→Bool):Bool:=ks (fun _ _=>false) (fun _ _ _=>false) (fun _ _ _ _=>false) (fun _ _ _ _ _=>false) k (fun _ _=>false) (fun _=>false) e
@[elab_as_elim] theorem Zgf {M:Stmt→Prop} {e:Stmt} {k:Expr→List Stmt→List Stmt→Pos→Bool} (h:kIf e k=true) (f:∀a b c d,k a b c d=true→M (.If a b c d)):M e:=C9 h (fun _ _ h=>nf h) (fun _ _ _ h=>nf h) (fun _ _ _ _ h=>nf h) (fun _ _ _ _ _ h=>nf h) f (fun _ _ h=>nf h) (fun _ h=>nf h)
noncomputable def kEx (e:Stmt) (k:Expr→Pos→Bool):Bool:=ks (fun _ _=>false) (fun _ _ _=>false) (fun _ _ _ _=>false) (fun _ _ _ _ _=>false) (fun _ _ _ _=>false) k (fun _=>false) e
@[elab_as_elim] theorem Zgd {M:Stmt→Prop} {e:Stmt} {k:Expr→Pos→Bool} (h:kEx e k=true) (f:∀a b,k a b=true→M (.Expr a b)):M e:=C9 h (fun _ _ h=>nf h) (fun _ _ _ h=>nf h) (fun _ _ _ _ h=>nf h) (fun _ _ _ _ _ h=>nf h) (fun _ _ _ _ h=>nf h) f (fun _ h=>nf h)
noncomputable def C3 (e:Stmt) (k:Pos→Bool):Bool:=ks (fun _ _=>false) (fun _ _ _=>false) (fun _ _ _ _=>false) (fun _ _ _ _ _=>false) (fun _ _ _ _=>false) (fun _ _=>false) k e
@[elab_as_elim] theorem C4 {M:Stmt→Prop} {e:Stmt} {k:Pos→Bool} (h:C3 e k=true) (f:∀a,k a=true→M (.Pass a)):M e:=C9 h (fun _ _ h=>nf h) (fun _ _ _ h=>nf h) (fun _ _ _ _ h=>nf h) (fun _ _ _ _ _ h=>nf h) (fun _ _ _ _ h=>nf h) (fun _ _ h=>nf h) f
noncomputable def kCs (c:Const) (k:Str→Bool):Bool:=match c with
 |.str a=>k a
 |_=>false
noncomputable def kCi (c:Const) (k:Int→Bool):Bool:=match c with
 |.int a=>k a
 |_=>false
noncomputable def kCb (c:Const) (k:Bool→Bool):Bool:=match c with
 |.bool a=>k a
 |_=>false
noncomputable def kCn (c:Const):Bool:=match c with
 |.none=>true
 |_=>false
noncomputable def X4 {α:Type} (l:List α) (k:Bool):Bool:=List.rec k (fun _ _ _=>false) l
noncomputable def Wc {α:Type} (l:List α) (k:α→List α→Bool):Bool:=List.rec false (fun a r _=>k a r) l
noncomputable def kNo {α:Type} (l:Option α) (k:Bool):Bool:=Option.rec k (fun _=>false) l
noncomputable def kSo {α:Type} (l:Option α) (k:α→Bool):Bool:=Option.rec false (fun a=>k a) l
section
variable{M:Const→Prop}{e:Const}
@[elab_as_elim] theorem Kp {k:Str→Bool} (h:kCs e k=true) (f:∀a,k a=true→M (.str a)):M e:=by
  cases e with
  |str a=>exact f a h
  |_=>exact nf h
@[elab_as_elim] theorem Pl {k:Int→Bool} (h:kCi e k=true) (f:∀a,k a=true→M (.int a)):M e:=by
  cases e with
  |int a=>exact f a h
  |_=>exact nf h
@[elab_as_elim] theorem Zg9 {k:Bool→Bool} (h:kCb e k=true) (f:∀a,k a=true→M (.bool a)):M e:=by
  cases e with
  |bool a=>exact f a h
  |_=>exact nf h
@[elab_as_elim] theorem Zgb (h:kCn e=true) (f:M .none):M e:=by
  cases e with
  |none=>exact f
  |_=>exact nf h
end
section
variable{α:Type}{l:List α}{o:Option α}{M:List α→Prop}{M':Option α→Prop}
@[elab_as_elim] theorem Zt {k:Bool} (h:X4 l k=true) (f:k=true→M []):M l:=by
  cases l with
  |nil=>exact f h
  |cons a r=>exact nf h
@[elab_as_elim] theorem Z6 {k:α→List α→Bool} (h:Wc l k=true) (f:∀a r,k a r=true→M (a::r)):M l:=by
  cases l with
  |nil=>exact nf h
  |cons a r=>exact f a r h
@[elab_as_elim] theorem Pn {k:Bool} (h:kNo o k=true) (f:k=true→M' none):M' o:=by
  cases o with
  |none=>exact f h
  |some a=>exact nf h
@[elab_as_elim] theorem S6 {k:α→Bool} (h:kSo o k=true) (f:∀a,k a=true→M' (some a)):M' o:=by
  cases o with
  |none=>exact nf h
  |some a=>exact f a h
noncomputable def Yt (l:List α) (k:α→Bool):Bool:=Wc l fun a r=>X4 r (k a)
@[elab_as_elim] theorem Zw {k:α→Bool} (h:Yt l k=true) (f:∀a,k a=true→M [a]):M l:=Z6 h fun a r h=>Zt (M:=fun r=>M (a::r)) h fun h=>f a h
end
structure Tn where
 ns:List (Str×NameKind)
 gn:Nat→Str
 fn:Nat→Str
 cn:Nat→Str
 an:Nat→Str
 isG:Nat→Bool
noncomputable def Zs (x y:Str):Bool:=decide (x=y)
theorem strB_iff{x y:Str}:Zs x y=true↔x=y:=decide_eq_true_iff
noncomputable def Hp (k k':NameKind):Bool:=decide (k=k')
noncomputable def okN (t:Tn) (k:NameKind) (j:Nat) (x:Str):Bool:=kSo t.ns[j]? fun p=>Zs p.1 x&&Hp p.2 k
noncomputable def okC (d:D) (c:Const):Bool:=match d with
 |.none=>kCn c
 |.bool a=>kCb c fun b=>a == b
 |.int a=>kCi c fun b=>decide (a=b)&&Yo a
 |.str a=>kCs c fun b=>Zs a b
 |_=>false
noncomputable def Wy:WK→Str
 |.store=>"store" |.objs=>"objs" |.arrays=>"arrays" |.versions=>"versions" |.pair=>"pair"
noncomputable def Y9:BI→Str
 |.len=>"len" |.range=>"range" |.tuple=>"tuple" |.str=>"str" |.isTup=>"isinstance"
noncomputable def Nj (ce:CE) (x:Str) (e:Expr):Bool:=match ce with
 |.c j=>R9 e fun c _ _=>kCi c fun i=>decide (i=j)&&Yo i
 |.var=>kNm e fun y _=>Zs y x
 |.mod _=>false
noncomputable def Yc (sc:Scope) (x:Str):Bool:=decide (sc.kind= .function)&&(decide (sc.names=[(Str.ofString ".0",NameKind.local),(x,NameKind.local)])&& !Zs x ".0")&& !sc.isGenerator&& !sc.isCoroutine&& !Zs x "__debug__"
noncomputable def Zqx (t:Tn) (s:Str) (e:Expr):Bool:=kNm e fun x _=>Zs x s&&decide (t.ns.lookup x=some .globalImplicit)
noncomputable def Y5 (e:Expr):Bool:= !Pk e fun _ _ _ _=>true
noncomputable def okG (t:Tn) (j:Nat) (s:Str) (e:Expr):Bool:=kNm e fun x _=>okN t .globalImplicit j x&&Zs s x
noncomputable def Ga (t:Tn) (j:Nat) (s:Str) (e:Expr) (k:List Expr→Bool):Bool:=Pk e fun f as kw _=>X4 kw (okG t j s f&&k as)
noncomputable def Nk (e:Expr) (k:Expr→Str→List Expr→Bool):Bool:=Pk e fun f as kw q=>X4 kw (Fw f fun o x p=>Y5 o&&(p.endLine == q.line&&k o x as))
noncomputable def Zmz (e:Expr) (k:Expr→Str→Expr→Bool):Bool:=kLC e fun elt gs sc p=>Yt gs fun g=>decide (g.is_async=0)&&(g.ifs.isEmpty&&kNm g.target fun y _=>Yc sc y&&k elt y g.iter)
noncomputable def Zxz (t:Tn) (b:BI) (r:List Expr):Bool:=match b with
 |.isTup=>Yt r (Zqx t "tuple")
 |_=>X4 r true
noncomputable def okE (t:Tn) (e:IE):Expr→Bool:=IE.rec (motive_1:=fun _=>Expr→Bool) (motive_2:=fun _=>List Expr→Bool)
 (fun d e=>R9 e fun c _ _=>okC d c) (fun j e=>kNm e fun x _=>okN t .local j x) (fun j g e=>okG t j (t.gn g) e) (fun _ l e=>Mk e fun x _ _=>l x) (fun _ l e=>Zgi e fun x _=>l x) (fun e=>S4 e fun ks vs _=>X4 ks (X4 vs true))
 (fun op _ _ a b e=>Pj e fun l o r _=>decide (op=o)&&(a l&&b r)) (fun _ a e=>kUn e fun o x _=>decide (o= .Not)&&a x) (fun _ a e=>kUn e fun o x _=>decide (o= .USub)&&a x)
 (fun op _ _ a b e=>Zga e fun l os rs _=>Yt os fun o=>Yt rs fun r=>decide (op=o)&&(a l&&b r)) (fun op _ l e=>Zqi e fun o x _=>decide (op=o)&&l x)
 (fun _ _ _ c a b e=>Zqj e fun x y z _=>c x&&(a y&&b z)) (fun _ a e x=>Fw x fun v y _=>e v&&(Zs (t.an a) y&&Y5 v)) (fun _ _ e i x=>Uk x fun v sl _=>e v&&i sl)
 (fun _ k e x=>Uk x fun v sl _=>R9 sl fun c _ _=>kCs c fun y=>Zs y (Wy k)&&e v)
 (fun _ _ e i x=>Uk x fun v sl _=>F3 sl fun l u s _=>kNo s (kNo u (kSo l fun l=>e v&&i l))) (fun _ _ e i x=>Uk x fun v sl _=>F3 sl fun l u s _=>kNo s (kNo l (kSo u fun l=>e v&&i l)))
 (fun j f _ l x=>Ga t j (t.fn f) x fun as=>Wc as fun e r=>t.isG f&&l (e::r)) (fun j c _ l x=>Ga t j (t.cn c) x fun as=>Nat.blt c 6&&l as)
 (fun j b _ a x=>Ga t j (Y9 b) x fun as=>Wc as fun e r=>a e&&Zxz t b r)
 (fun _ _ e a x=>Nk x fun o n as=>Zs n "append"&&Yt as fun y=>e o&&a y) (fun _ e x=>Nk x fun o n as=>Zs n "pop"&&X4 as (e o))
 (fun _ _ _ e k d x=>Nk x fun o n as=>Zs n "get"&&Wc as fun y r=>Yt r fun z=>e o&&(k y&&d z))
 (fun _ a _ _ e l x=>Nk x fun o n as=>Wc as fun y r=>Zs (t.an a) n&&(Nat.blt (y::r).length 20&&(e o&&l (y::r)))) (fun ce x _ it e=>Zmz e fun elt y iter=>Nj ce x elt&&(Zs x y&&it iter))
 (fun l=>X4 l true) (fun _ _ a ih l=>Wc l fun x l=>a x&&ih l) e
noncomputable def Mq (t:Tn) (l:List IE):List Expr→Bool:=IE.rec_1 (motive_1:=fun _=>Expr→Bool) (motive_2:=fun _=>List Expr→Bool)
 (fun d e=>R9 e fun c _ _=>okC d c) (fun j e=>kNm e fun x _=>okN t .local j x) (fun j g e=>okG t j (t.gn g) e) (fun _ l e=>Mk e fun x _ _=>l x) (fun _ l e=>Zgi e fun x _=>l x) (fun e=>S4 e fun ks vs _=>X4 ks (X4 vs true))
 (fun op _ _ a b e=>Pj e fun l o r _=>decide (op=o)&&(a l&&b r)) (fun _ a e=>kUn e fun o x _=>decide (o= .Not)&&a x) (fun _ a e=>kUn e fun o x _=>decide (o= .USub)&&a x)
 (fun op _ _ a b e=>Zga e fun l os rs _=>Yt os fun o=>Yt rs fun r=>decide (op=o)&&(a l&&b r)) (fun op _ l e=>Zqi e fun o x _=>decide (op=o)&&l x)
 (fun _ _ _ c a b e=>Zqj e fun x y z _=>c x&&(a y&&b z)) (fun _ a e x=>Fw x fun v y _=>e v&&(Zs (t.an a) y&&Y5 v)) (fun _ _ e i x=>Uk x fun v sl _=>e v&&i sl)
 (fun _ k e x=>Uk x fun v sl _=>R9 sl fun c _ _=>kCs c fun y=>Zs y (Wy k)&&e v)
 (fun _ _ e i x=>Uk x fun v sl _=>F3 sl fun l u s _=>kNo s (kNo u (kSo l fun l=>e v&&i l))) (fun _ _ e i x=>Uk x fun v sl _=>F3 sl fun l u s _=>kNo s (kNo l (kSo u fun l=>e v&&i l)))
 (fun j f _ l x=>Ga t j (t.fn f) x fun as=>Wc as fun e r=>t.isG f&&l (e::r)) (fun j c _ l x=>Ga t j (t.cn c) x fun as=>Nat.blt c 6&&l as)
 (fun j b _ a x=>Ga t j (Y9 b) x fun as=>Wc as fun e r=>a e&&Zxz t b r)
 (fun _ _ e a x=>Nk x fun o n as=>Zs n "append"&&Yt as fun y=>e o&&a y) (fun _ e x=>Nk x fun o n as=>Zs n "pop"&&X4 as (e o))
 (fun _ _ _ e k d x=>Nk x fun o n as=>Zs n "get"&&Wc as fun y r=>Yt r fun z=>e o&&(k y&&d z))
 (fun _ a _ _ e l x=>Nk x fun o n as=>Wc as fun y r=>Zs (t.an a) n&&(Nat.blt (y::r).length 20&&(e o&&l (y::r)))) (fun ce x _ it e=>Zmz e fun elt y iter=>Nj ce x elt&&(Zs x y&&it iter))
 (fun l=>X4 l true) (fun _ _ a ih l=>Wc l fun x l=>a x&&ih l) l
noncomputable def X5 (t:Tn) (j:Nat) (e:Expr):Bool:=kNm e fun x _=>okN t .local j x
noncomputable def ok0 (t:Tn) (e:IE) (ex:Expr):Bool:=Zmz ex fun elt y it=>R9 elt fun c _ _=>kCi c fun i=>decide (i=0)&&Pk it fun f as kw _=>X4 kw (Zqx t "range" f&&Yt as (okE t e))
noncomputable def Sg (t:Tn) (l:List (Nat×Nat)):List (Option Expr)→Bool:=List.rec (fun l=>X4 l true) (fun p _ ih l=>Wc l fun o r=>kSo o fun e=>okG t p.1 (t.gn p.2) e&&ih r) l
noncomputable def Zq (e:Expr):Bool:=kLC e fun _ _ _ _=>true
noncomputable def R8 (e:Expr):Bool:=Mk e fun _ _ _=>true
noncomputable def Tf (x v:Expr):Bool:=kNm x fun n p=>kLC v fun _ _ sc q=>p.line == q.line&& !(sc.names.any fun a=>a.1 == n&&(a.2 == .local || a.2 == .cell))
noncomputable def Tw (s:Stmt) (k:Expr→Str→Expr→Bool):Bool:=kEx s fun v _=>Nk v fun o n as=>Zs n "append"&&Yt as fun a=>Uk o fun x i _=>R9 i fun c _ _=>kCs c fun y=>k x y a
noncomputable def okS (t:Tn) (s:IS):Stmt→Bool:=IS.rec (motive_1:=fun _=>Stmt→Bool) (motive_2:=fun _=>List Stmt→Bool)
 (fun j e s=>Sb s fun xs v _=>Yt xs fun x=>X5 t j x&&(okE t e v&&(!Zq v || Tf x v)))
 (fun j k e s=>Sb s fun xs v _=>Yt xs fun x=>Mk x fun l _ _=>Wc l fun x r=>Yt r fun y=>X5 t j x&&(X5 t k y&&(okE t e v&&(!Zq v&& !R8 v))))
 (fun o a e s=>Sb s fun xs v _=>Yt xs fun x=>Fw x fun x n _=>Zs (t.an a) n&&(okE t o x&&(okE t e v&& !Zq v)))
 (fun o i e s=>Sb s fun xs v _=>Yt xs fun x=>Uk x fun x y _=>okE t o x&&(okE t i y&&(okE t e v&& !Zq v)))
 (fun _ _ _ _=>false)
 (fun j e s=>C1 s fun x o v _=>X5 t j x&&(decide (o= .Add)&&okE t e v))
 (fun o i e s=>C1 s fun x p v _=>Uk x fun x y _=>okE t o x&&(okE t i y&&(decide (p= .Add)&&okE t e v)))
 (fun e s=>kEx s fun v _=>okE t e v&& !Zq v)
 (fun j e s=>Tw s fun x y a=>X5 t j x&&(Zs y "arrays"&&ok0 t e a))
 (fun j xs e s=>Tw s fun x y a=>X5 t j x&&(Zs y "arrays"&&Pj a fun l o r _=>decide (o= .Add)&&(okE t xs l&&ok0 t e r)))
 (fun j ks vs s=>Tw s fun x y a=>X5 t j x&&(Zs y "objs"&&S4 a fun kl vl _=>Sg t ks kl&&(Mq t vs vl&&(Nat.ble kl.length 15&& !kl.isEmpty))))
 (fun c _ _ b o s=>kIf s fun x y z _=>okE t c x&&(b y&&o z))
 (fun j it _ b s=>Fz s fun x y z e _=>X4 e (X5 t j x&&(okE t it y&&b z)))
 (fun j k it _ b s=>Fz s fun x y z e _=>X4 e (Mk x fun l _ _=>Wc l fun x r=>Yt r fun x'=>X5 t j x&&(X5 t k x'&&(okE t it y&&b z))))
 (fun e s=>F2 s fun o _=>kSo o (okE t e)) (fun s=>F2 s fun o _=>kNo o true)
 (fun _ _ _=>true)
 (fun s=>C3 s fun _=>true) (fun l=>X4 l true) (fun _ _ a ih l=>Wc l fun x l=>a x&&ih l) s
noncomputable def Rm (t:Tn) (l:List IS):List Stmt→Bool:=IS.rec_1 (motive_1:=fun _=>Stmt→Bool) (motive_2:=fun _=>List Stmt→Bool)
 (fun j e s=>Sb s fun xs v _=>Yt xs fun x=>X5 t j x&&(okE t e v&&(!Zq v || Tf x v)))
 (fun j k e s=>Sb s fun xs v _=>Yt xs fun x=>Mk x fun l _ _=>Wc l fun x r=>Yt r fun y=>X5 t j x&&(X5 t k y&&(okE t e v&&(!Zq v&& !R8 v))))
 (fun o a e s=>Sb s fun xs v _=>Yt xs fun x=>Fw x fun x n _=>Zs (t.an a) n&&(okE t o x&&(okE t e v&& !Zq v)))
 (fun o i e s=>Sb s fun xs v _=>Yt xs fun x=>Uk x fun x y _=>okE t o x&&(okE t i y&&(okE t e v&& !Zq v)))
 (fun _ _ _ _=>false)
 (fun j e s=>C1 s fun x o v _=>X5 t j x&&(decide (o= .Add)&&okE t e v))
 (fun o i e s=>C1 s fun x p v _=>Uk x fun x y _=>okE t o x&&(okE t i y&&(decide (p= .Add)&&okE t e v)))
 (fun e s=>kEx s fun v _=>okE t e v&& !Zq v)
 (fun j e s=>Tw s fun x y a=>X5 t j x&&(Zs y "arrays"&&ok0 t e a))
 (fun j xs e s=>Tw s fun x y a=>X5 t j x&&(Zs y "arrays"&&Pj a fun l o r _=>decide (o= .Add)&&(okE t xs l&&ok0 t e r)))
 (fun j ks vs s=>Tw s fun x y a=>X5 t j x&&(Zs y "objs"&&S4 a fun kl vl _=>Sg t ks kl&&(Mq t vs vl&&(Nat.ble kl.length 15&& !kl.isEmpty))))
 (fun c _ _ b o s=>kIf s fun x y z _=>okE t c x&&(b y&&o z))
 (fun j it _ b s=>Fz s fun x y z e _=>X4 e (X5 t j x&&(okE t it y&&b z)))
 (fun j k it _ b s=>Fz s fun x y z e _=>X4 e (Mk x fun l _ _=>Wc l fun x r=>Yt r fun x'=>X5 t j x&&(X5 t k x'&&(okE t it y&&b z))))
 (fun e s=>F2 s fun o _=>kSo o (okE t e)) (fun s=>F2 s fun o _=>kNo o true)
 (fun _ _ _=>true)
 (fun s=>C3 s fun _=>true) (fun l=>X4 l true) (fun _ _ a ih l=>Wc l fun x l=>a x&&ih l) l
end Mine
namespace Mine
open PySem PySem.W
set_option genInjectivity false
noncomputable def f1:Fn:=⟨1,3,2,[(.setA (.nm 0) 0 (.lst [])),(.setA (.nm 0) 1 .dct0),(.setA (.nm 0) 2 (.lst [])),(.setA (.nm 0) 3 (.lst [])),(.setA (.nm 0) 4 (.lst [])),(.for1 1 (.bi 3 .range (.gl 4 57)) [(.asg 2 (.tup [(.gl 5 58),(.nm 1)])),(.ex (.app (.attr (.nm 0) 0) (.nm 2))),(.setS (.attr (.nm 0) 1) (.nm 2) (.nm 1)),(.ex (.app (.attr (.nm 0) 2) (.c (.int 1)))),(.ex (.app (.attr (.nm 0) 3) (.c (.int 1)))),(.ex (.app (.attr (.nm 0) 4) (.c (.int 0))))])]⟩
noncomputable def f2:Fn:=⟨2,2,2,[(.ife (.bop .Or [(.cmp .Lt (.nm 1) (.c (.int 0))),(.cmp .GtE (.nm 1) (.bi 2 .len (.attr (.nm 0) 0)))]) [(.raise 3 [(.c (.str "number")),(.nm 1)])] []),(.ret (.sub (.attr (.nm 0) 0) (.nm 1)))]⟩
noncomputable def f3:Fn:=⟨2,9,2,[(.asg 2 (.get (.attr (.nm 0) 1) (.nm 1) (.neg (.c (.int 1))))),(.ife (.cmp .GtE (.nm 2) (.c (.int 0))) [(.ret (.nm 2))] []),(.ex (.call 9 7 [(.nm 0),(.nm 1)])),(.asg 3 (.c (.int 1))),(.asg 4 (.c (.int 1))),(.asg 5 (.c (.int 0))),(.ife (.bop .Or [(.cmp .Eq (.sub (.nm 1) (.c (.int 0))) (.gl 10 63)),(.cmp .Eq (.sub (.nm 1) (.c (.int 0))) (.gl 11 64))]) [(.asg 5 (.c (.int 1)))] []),(.asg 6 (.call 12 5 [(.sub (.nm 1) (.c (.int 0)))])),(.for1 7 (.call 13 4 [(.nm 1)]) [(.ife (.cmp .Gt (.bin .Add (.sub (.attr (.nm 0) 2) (.nm 7)) (.nm 6)) (.nm 3)) [(.asg 3 (.bin .Add (.sub (.attr (.nm 0) 2) (.nm 7)) (.nm 6)))] []),(.augN 4 (.sub (.attr (.nm 0) 3) (.nm 7))),(.ife (.cmp .Eq (.sub (.attr (.nm 0) 4) (.nm 7)) (.c (.int 1))) [(.asg 5 (.c (.int 1)))] [])]),(.ife (.cmp .Gt (.nm 3) (.gl 14 69)) [(.raise 15 [(.c (.str "depth")),(.nm 3)])] []),(.ife (.cmp .Gt (.nm 4) (.gl 16 70)) [(.raise 15 [(.c (.str "large")),(.nm 4)])] []),(.asg 8 (.bi 17 .len (.attr (.nm 0) 0))),(.ex (.app (.attr (.nm 0) 0) (.nm 1))),(.setS (.attr (.nm 0) 1) (.nm 1) (.nm 8)),(.ex (.app (.attr (.nm 0) 2) (.nm 3))),(.ex (.app (.attr (.nm 0) 3) (.nm 4))),(.ex (.app (.attr (.nm 0) 4) (.nm 5))),(.ret (.nm 8))]⟩
noncomputable def f4:Fn:=⟨1,2,2,[(.asg 1 (.sub (.nm 0) (.c (.int 0)))),(.ife (.bop .Or [(.cmp .Eq (.nm 1) (.gl 2 59)),(.cmp .Eq (.nm 1) (.gl 3 60))]) [(.ret (.sub (.nm 0) (.c (.int 2))))] []),(.ife (.bop .Or [(.cmp .Eq (.nm 1) (.gl 4 61)),(.cmp .Eq (.nm 1) (.gl 5 62)),(.cmp .Eq (.nm 1) (.gl 6 65)),(.cmp .Eq (.nm 1) (.gl 7 66)),(.cmp .Eq (.nm 1) (.gl 8 68))]) [(.ret (.tup [(.sub (.nm 0) (.c (.int 1)))]))] []),(.ife (.cmp .Eq (.nm 1) (.gl 9 67)) [(.ret (.bin .Add (.tup [(.sub (.nm 0) (.c (.int 1)))]) (.sub (.nm 0) (.c (.int 3)))))] []),(.ret (.tup []))]⟩
noncomputable def f5:Fn:=⟨1,1,2,[(.ife (.bop .Or [(.cmp .Eq (.nm 0) (.gl 1 59)),(.cmp .Eq (.nm 0) (.gl 2 60)),(.cmp .Eq (.nm 0) (.gl 3 61))]) [(.ret (.c (.int 1)))] []),(.ret (.c (.int 0)))]⟩
noncomputable def f6:Fn:=⟨1,1,2,[(.ife (.bop .Or [(.cmp .Eq (.nm 0) (.gl 1 59)),(.cmp .Eq (.nm 0) (.gl 2 60))]) [(.ret (.c (.int 3)))] []),(.ife (.cmp .Eq (.nm 0) (.gl 3 67)) [(.ret (.c (.int 4)))] []),(.ret (.c (.int 2)))]⟩
noncomputable def f7:Fn:=⟨2,4,2,[(.ife (.bop .Or [(.cmp .Eq (.bi 4 .len (.nm 1)) (.c (.int 0))),(.cmp .LtE (.sub (.nm 1) (.c (.int 0))) (.gl 5 58)),(.cmp .Gt (.sub (.nm 1) (.c (.int 0))) (.gl 6 68))]) [(.raise 7 [(.c (.str "sort")),(.c (.int 0))])] []),(.asg 2 (.sub (.nm 1) (.c (.int 0)))),(.ife (.cmp .NotEq (.bi 4 .len (.nm 1)) (.call 8 6 [(.nm 2)])) [(.raise 7 [(.c (.str "length")),(.nm 2)])] []),(.for1 3 (.call 9 4 [(.nm 1)]) [(.ex (.meth (.nm 0) 49 2 [(.nm 3)]))]),(.ife (.bop .Or [(.cmp .Eq (.nm 2) (.gl 10 59)),(.cmp .Eq (.nm 2) (.gl 11 60))]) [(.ex (.call 12 8 [(.nm 0),(.nm 1)]))] [(.ife (.bop .Or [(.cmp .Eq (.nm 2) (.gl 13 63)),(.cmp .Eq (.nm 2) (.gl 14 64))]) [(.ife (.cmp .Lt (.sub (.nm 1) (.c (.int 1))) (.c (.int 0))) [(.raise 7 [(.c (.str "place")),(.sub (.nm 1) (.c (.int 1)))])] [])] [(.ife (.cmp .Eq (.nm 2) (.gl 15 67)) [(.ife (.bop .Or [(.not (.call 16 10 [(.nm 0),(.sub (.nm 1) (.c (.int 1)))])),(.cmp .Lt (.sub (.nm 1) (.c (.int 2))) (.c (.int 0)))]) [(.raise 7 [(.c (.str "method")),(.sub (.nm 1) (.c (.int 2)))])] []),(.ex (.call 17 9 [(.nm 0),(.sub (.nm 1) (.c (.int 3)))]))] [(.ife (.cmp .Eq (.nm 2) (.gl 18 65)) [(.ife (.not (.bop .Or [(.call 19 16 [(.nm 0),(.sub (.nm 1) (.c (.int 1)))]),(.call 20 17 [(.nm 0),(.sub (.nm 1) (.c (.int 1)))])])) [(.raise 7 [(.c (.str "boxed")),(.sub (.nm 1) (.c (.int 1)))])] [])] [(.ife (.not (.call 16 10 [(.nm 0),(.sub (.nm 1) (.c (.int 1)))])) [(.raise 7 [(.c (.str "inner")),(.sub (.nm 1) (.c (.int 1)))])] [])])])])])]⟩
noncomputable def f8:Fn:=⟨2,2,2,[(.ife (.bop .Or [(.cmp .LtE (.sub (.nm 1) (.c (.int 1))) (.c (.int 0))),(.cmp .In (.sub (.nm 1) (.c (.int 1))) (.gl 2 71))]) [(.raise 3 [(.c (.str "named")),(.sub (.nm 1) (.c (.int 1)))])] []),(.ex (.call 4 9 [(.nm 0),(.sub (.nm 1) (.c (.int 2)))]))]⟩
noncomputable def f9:Fn:=⟨2,3,2,[(.for1 2 (.nm 1) [(.ife (.not (.call 3 10 [(.nm 0),(.nm 2)])) [(.raise 4 [(.c (.str "argument")),(.nm 2)])] [])])]⟩
noncomputable def f10:Fn:=⟨2,3,2,[(.ife (.bop .Or [(.cmp .Eq (.nm 1) (.gl 3 42)),(.cmp .Eq (.nm 1) (.gl 4 56))]) [(.ret (.c (.bool false)))] []),(.asg 2 (.sub (.meth (.nm 0) 49 2 [(.nm 1)]) (.c (.int 0)))),(.ret (.bop .Or [(.cmp .LtE (.nm 2) (.gl 5 61)),(.cmp .Eq (.nm 2) (.gl 6 63)),(.cmp .Eq (.nm 2) (.gl 7 64))]))]⟩
noncomputable def f11:Fn:=⟨3,3,2,[(.ife (.cmp .In (.nm 1) (.gl 3 71)) [(.ret (.call 4 13 [(.nm 1),(.nm 2)]))] []),(.ret (.meth (.nm 0) 48 3 [(.tup [(.gl 5 59),(.nm 1),(.nm 2)])]))]⟩
noncomputable def f12:Fn:=⟨3,3,2,[(.ife (.cmp .In (.nm 1) (.gl 3 71)) [(.ret (.call 4 13 [(.nm 1),(.nm 2)]))] []),(.ret (.meth (.nm 0) 48 3 [(.tup [(.gl 5 60),(.nm 1),(.nm 2)])]))]⟩
noncomputable def f13:Fn:=⟨2,2,2,[(.ife (.cmp .Gt (.bi 2 .len (.nm 1)) (.c (.int 0))) [(.raise 3 [(.c (.str "argument")),(.nm 0)])] []),(.ret (.sub (.gl 4 71) (.nm 0)))]⟩
noncomputable def f14:Fn:=⟨2,2,2,[(.ret (.meth (.nm 0) 48 3 [(.tup [(.gl 2 61),(.nm 1)])]))]⟩
noncomputable def f15:Fn:=⟨2,2,2,[(.ret (.meth (.nm 0) 48 3 [(.tup [(.gl 2 63),(.nm 1)])]))]⟩
noncomputable def f16:Fn:=⟨2,2,2,[(.ife (.bop .And [(.cmp .LtE (.gl 2 43) (.nm 1)),(.cmp .LtE (.nm 1) (.gl 3 53))]) [(.ret (.c (.bool true)))] []),(.ret (.cmp .Eq (.sub (.meth (.nm 0) 49 2 [(.nm 1)]) (.c (.int 0))) (.gl 4 60)))]⟩
noncomputable def f17:Fn:=⟨2,3,2,[(.asg 2 (.sub (.meth (.nm 0) 49 2 [(.nm 1)]) (.c (.int 0)))),(.ret (.bop .Or [(.cmp .Eq (.nm 2) (.gl 3 63)),(.cmp .Eq (.nm 2) (.gl 4 64))]))]⟩
noncomputable def f18:Fn:=⟨8,9,2,[(.setA (.nm 0) 5 (.nm 1)),(.setA (.nm 0) 6 (.nm 2)),(.setA (.nm 0) 7 (.nm 3)),(.setA (.nm 0) 8 (.nm 4)),(.setA (.nm 0) 9 (.nm 5)),(.setA (.nm 0) 10 (.lst [])),(.setA (.nm 0) 11 (.lst [])),(.setA (.nm 0) 12 (.lst [])),(.setA (.nm 0) 13 (.lst [])),(.for1 8 (.nm 6) [(.ex (.app (.attr (.nm 0) 11) (.nm 8))),(.ex (.app (.attr (.nm 0) 12) (.gl 9 117))),(.ex (.app (.attr (.nm 0) 13) (.tup [(.c (.int 0)),(.tup [])])))]),(.setA (.nm 0) 14 (.lst [])),(.setA (.nm 0) 15 (.lst [])),(.setA (.nm 0) 16 (.nm 7)),(.setA (.nm 0) 17 (.c (.int 0))),(.setA (.nm 0) 18 (.neg (.c (.int 1)))),(.setA (.nm 0) 19 (.lst [])),(.setA (.nm 0) 20 (.lst [])),(.setA (.nm 0) 21 (.lst [])),(.setA (.nm 0) 22 (.c (.int 0))),(.setA (.nm 0) 23 (.c (.int 0)))]⟩
noncomputable def f19:Fn:=⟨7,7,2,[(.setA (.nm 0) 24 (.nm 1)),(.setA (.nm 0) 25 (.nm 2)),(.setA (.nm 0) 6 (.nm 3)),(.setA (.nm 0) 26 (.nm 4)),(.setA (.nm 0) 27 (.nm 5)),(.setA (.nm 0) 8 (.nm 6)),(.setA (.nm 0) 28 (.c .none))]⟩
noncomputable def f20:Fn:=⟨8,8,2,[(.setA (.nm 0) 29 (.nm 1)),(.setA (.nm 0) 25 (.nm 2)),(.setA (.nm 0) 6 (.nm 3)),(.setA (.nm 0) 27 (.nm 4)),(.setA (.nm 0) 8 (.nm 5)),(.setA (.nm 0) 30 (.c (.int 0))),(.setA (.nm 0) 31 (.lst [])),(.setA (.nm 0) 32 (.lst [])),(.setA (.nm 0) 33 (.nm 6)),(.setA (.nm 0) 11 (.bi 8 .tuple (.nm 7))),(.setA (.nm 0) 34 (.call 9 23 [(.bi 10 .len (.nm 7))])),(.setA (.nm 0) 35 (.bin .Mult (.tup [(.c (.int 0))]) (.bi 10 .len (.nm 7)))),(.setA (.nm 0) 36 (.c .none)),(.setA (.nm 0) 37 (.c (.int 0)))]⟩
noncomputable def f21:Fn:=⟨5,5,2,[(.setA (.nm 0) 38 (.nm 1)),(.setA (.nm 0) 39 (.nm 2)),(.setA (.nm 0) 40 (.nm 3)),(.setA (.nm 0) 41 (.nm 4))]⟩
noncomputable def f22:Fn:=⟨1,1,2,[(.setA (.nm 0) 42 (.mk 1 0 [])),(.setA (.nm 0) 43 (.lst [(.c .none)])),(.setA (.nm 0) 44 (.lst [(.c .none)])),(.setA (.nm 0) 15 (.lst [(.c .none)])),(.setA (.nm 0) 45 .dct0),(.setA (.nm 0) 46 (.lst [])),(.setA (.nm 0) 47 (.c (.int 0)))]⟩
noncomputable def f23:Fn:=⟨1,3,2,[(.asg 1 (.lst [])),(.for1 2 (.bi 3 .range (.nm 0)) [(.ex (.app (.nm 1) (.bin .Add (.c (.str "p")) (.bi 4 .str (.nm 2)))))]),(.ret (.bi 5 .tuple (.nm 1)))]⟩
noncomputable def f24:Fn:=⟨3,4,2,[(.asg 3 (.sub (.attr (.nm 0) 43) (.nm 1))),(.ife (.cmp .NotIn (.nm 2) (.attr (.nm 3) 10)) [(.ex (.app (.attr (.nm 3) 10) (.nm 2)))] [])]⟩
noncomputable def f25:Fn:=⟨7,8,2,[(.ife (.bop .Or [(.cmp .LtE (.nm 1) (.c (.int 0))),(.cmp .Gt (.nm 1) (.gl 8 94))]) [(.raise 9 [(.c (.str "field")),(.nm 1)])] []),(.asg 7 (.sub (.attr (.nm 0) 44) (.nm 1))),(.ife (.cmp .Is (.nm 7) (.c .none)) [(.ex (.app (.attr (.sub (.attr (.nm 0) 43) (.nm 2)) 14) (.nm 1)))] [(.ife (.cmp .NotEq (.attr (.nm 7) 25) (.nm 2)) [(.raise 9 [(.c (.str "field")),(.nm 1)])] [])]),(.setS (.attr (.nm 0) 44) (.nm 1) (.mk 10 2 [(.nm 1),(.nm 2),(.nm 3),(.nm 4),(.nm 5),(.nm 6)])),(.ret (.nm 1))]⟩
noncomputable def f26:Fn:=⟨1,1,2,[(.ife (.bop .And [(.cmp .NotEq (.bin .BitAnd (.nm 0) (.bin .Add (.gl 1 121) (.gl 2 122))) (.c (.int 0))),(.cmp .NotEq (.bin .BitAnd (.nm 0) (.gl 3 123)) (.c (.int 0)))]) [(.ret (.bin .Sub (.nm 0) (.gl 3 123)))] []),(.ret (.nm 0))]⟩
noncomputable def f27:Fn:=⟨8,10,2,[(.ife (.bop .Or [(.cmp .LtE (.nm 1) (.c (.int 0))),(.cmp .Gt (.nm 1) (.gl 10 113))]) [(.raise 11 [(.c (.str "method")),(.nm 1)])] []),(.asg 8 (.sub (.attr (.nm 0) 15) (.nm 1))),(.ife (.cmp .Is (.nm 8) (.c .none)) [(.ex (.app (.attr (.sub (.attr (.nm 0) 43) (.nm 2)) 15) (.nm 1)))] [(.ife (.cmp .NotEq (.attr (.nm 8) 25) (.nm 2)) [(.raise 11 [(.c (.str "method")),(.nm 1)])] [])]),(.setS (.attr (.nm 0) 15) (.nm 1) (.mk 12 3 [(.nm 1),(.nm 2),(.nm 3),(.nm 4),(.call 13 26 [(.nm 5)]),(.nm 6),(.nm 7)])),(.asg 9 (.sub (.attr (.nm 0) 43) (.nm 2))),(.ife (.cmp .Eq (.attr (.nm 9) 17) (.nm 1)) [(.setA (.nm 9) 17 (.c (.int 0)))] []),(.ife (.cmp .Eq (.attr (.nm 9) 22) (.nm 1)) [(.setA (.nm 9) 22 (.c (.int 0)))] []),(.ex (.call 14 28 [(.nm 0),(.nm 1)])),(.ret (.nm 1))]⟩
noncomputable def f28:Fn:=⟨2,4,2,[(.asg 2 (.sub (.attr (.nm 0) 15) (.nm 1))),(.asg 3 (.sub (.attr (.nm 0) 43) (.attr (.nm 2) 25))),(.ife (.cmp .NotEq (.bin .BitAnd (.attr (.nm 2) 8) (.gl 4 122)) (.c (.int 0))) [(.setA (.nm 3) 17 (.nm 1))] []),(.ife (.bop .And [(.cmp .Eq (.attr (.nm 2) 6) (.c (.str "Finalize"))),(.call 5 35 [(.nm 2)]),(.cmp .Eq (.bi 6 .len (.attr (.nm 2) 11)) (.c (.int 0))),(.cmp .Eq (.attr (.nm 2) 33) (.gl 7 42))]) [(.ife (.bop .Or [(.cmp .Eq (.attr (.nm 2) 25) (.gl 8 124)),(.cmp .Eq (.bin .BitAnd (.attr (.nm 2) 8) (.gl 9 119)) (.c (.int 0)))]) [(.setA (.nm 3) 22 (.nm 1))] [])] [])]⟩
noncomputable def f29:Fn:=⟨6,10,2,[(.asg 6 (.lst [])),(.for1 7 (.nm 4) [(.ex (.app (.nm 6) (.nm 7)))]),(.asg 8 (.lst [])),(.for1 9 (.nm 5) [(.ex (.app (.nm 8) (.nm 9)))]),(.setA (.sub (.attr (.nm 0) 15) (.nm 1)) 36 (.mk 10 4 [(.bi 11 .tuple (.nm 2)),(.nm 3),(.nm 6),(.nm 8)]))]⟩
noncomputable def f30:Fn:=⟨2,2,2,[(.ife (.cmp .NotIn (.nm 1) (.nm 0)) [(.ex (.app (.nm 0) (.nm 1)))] [])]⟩
noncomputable def f31:Fn:=⟨7,7,2,[(.ex (.call 7 30 [(.attr (.sub (.attr (.nm 0) 43) (.nm 1)) 20),(.tup [(.nm 2),(.nm 3),(.nm 4),(.nm 5),(.nm 6)])]))]⟩
noncomputable def f32:Fn:=⟨2,2,2,[(.ret (.bin .Add (.bin .Add (.gl 2 98) (.bin .Mult (.c (.int 2)) (.bin .Sub (.nm 0) (.gl 3 126)))) (.nm 1)))]⟩
noncomputable def f33:Fn:=⟨2,5,2,[(.ife (.cmp .In (.nm 1) (.gl 5 71)) [(.ret (.sub (.gl 5 71) (.nm 1)))] []),(.asg 2 (.sub (.attr (.nm 0) 43) (.nm 1))),(.asg 3 (.lst [])),(.for1 4 (.bi 6 .range (.bi 7 .len (.attr (.nm 2) 11))) [(.ex (.app (.nm 3) (.call 8 15 [(.attr (.nm 0) 42),(.nm 4)])))]),(.ret (.call 9 34 [(.nm 0),(.nm 1),(.bi 10 .tuple (.nm 3))]))]⟩
noncomputable def f34:Fn:=⟨3,4,2,[(.asg 3 (.attr (.sub (.attr (.nm 0) 43) (.nm 1)) 7)),(.ife (.bop .Or [(.cmp .Eq (.nm 3) (.gl 4 115)),(.cmp .Eq (.nm 3) (.gl 5 116))]) [(.ret (.call 6 12 [(.attr (.nm 0) 42),(.nm 1),(.nm 2)]))] []),(.ret (.call 7 11 [(.attr (.nm 0) 42),(.nm 1),(.nm 2)]))]⟩
noncomputable def f35:Fn:=⟨1,1,2,[(.ret (.cmp .NotEq (.bin .BitAnd (.attr (.nm 0) 8) (.gl 1 118)) (.c (.int 0))))]⟩
noncomputable def f36:Fn:=⟨1,1,2,[(.ret (.cmp .Eq (.get (.gl 1 163) (.nm 0) (.neg (.c (.int 1)))) (.gl 2 156)))]⟩
noncomputable def f37:Fn:=⟨1,6,2,[(.asg 1 .dct0),(.asg 2 (.c (.int 0))),(.for2 3 4 (.nm 0) [(.ife (.cmp .Eq (.nm 3) (.gl 6 165)) [(.setS (.nm 1) (.nm 4) (.nm 2))] [(.augN 2 (.c (.int 1)))])]),(.asg 5 (.lst [])),(.for2 3 4 (.nm 0) [(.ife (.cmp .NotEq (.nm 3) (.gl 6 165)) [(.ife (.call 7 36 [(.nm 3)]) [(.ex (.app (.nm 5) (.tup [(.nm 3),(.sub (.nm 1) (.nm 4))])))] [(.ex (.app (.nm 5) (.tup [(.nm 3),(.nm 4)])))])] [])]),(.ret (.nm 5))]⟩
noncomputable def f38:Fn:=⟨7,8,2,[(.for1 7 (.attr (.sub (.attr (.nm 0) 43) (.nm 1)) 20) [(.ife (.bop .And [(.cmp .Eq (.sub (.nm 7) (.c (.int 0))) (.nm 2)),(.cmp .Eq (.sub (.nm 7) (.c (.int 2))) (.nm 4))]) [.ret0] [])]),(.ex (.call 8 31 [(.nm 0),(.nm 1),(.nm 2),(.nm 3),(.nm 4),(.nm 5),(.nm 6)]))]⟩
noncomputable def f39:Fn:=⟨2,2,2,[(.ret (.call 2 11 [(.attr (.nm 0) 42),(.nm 1),(.tup [])]))]⟩
noncomputable def f40:Fn:=⟨2,2,2,[(.ret (.tup [(.gl 2 9),(.tup [(.nm 0),(.nm 1),(.tup [])])]))]⟩
noncomputable def f41:Fn:=⟨1,1,2,[(.ife (.cmp .Eq (.nm 0) (.gl 1 125)) [(.ret (.gl 2 97))] []),(.ret (.call 3 32 [(.nm 0),(.c (.int 0))]))]⟩
noncomputable def f42:Fn:=⟨3,3,2,[(.ret (.lst [(.tup [(.gl 3 24),(.nm 2)]),(.tup [(.gl 4 25),(.tup [(.call 5 39 [(.nm 0),(.nm 1)]),(.bin .Add (.call 6 41 [(.nm 1)]) (.c (.int 1))),(.tup [])])]),(.tup [(.gl 7 26),(.c (.int 0))])]))]⟩
noncomputable def f43:Fn:=⟨1,1,2,[(.ret (.lst [(.tup [(.gl 1 34),(.c (.int 0))]),(.tup [(.gl 2 27),(.tup [(.call 3 33 [(.nm 0),(.gl 4 131)]),(.gl 5 87)])])]))]⟩
noncomputable def f44:Fn:=⟨1,1,2,[(.ret (.lst [(.tup [(.gl 1 34),(.c (.int 0))]),(.tup [(.gl 2 27),(.tup [(.call 3 33 [(.nm 0),(.gl 4 131)]),(.gl 5 88)])])]))]⟩
noncomputable def f45:Fn:=⟨3,4,2,[(.asg 3 (.tup [(.call 4 33 [(.nm 0),(.gl 5 131)]),(.nm 1)])),(.ret (.lst [(.tup [(.gl 6 34),(.c (.int 0))]),(.tup [(.gl 6 34),(.c (.int 0))]),(.tup [(.gl 7 27),(.nm 3)]),(.tup [(.gl 8 8),(.c (.int 1))]),(.tup [(.nm 2),(.c (.int 0))]),(.tup [(.gl 9 28),(.nm 3)])]))]⟩
noncomputable def f46:Fn:=⟨2,2,2,[(.ret (.lst [(.tup [(.gl 2 35),(.nm 0)]),(.tup [(.gl 3 8),(.c (.int 1))]),(.tup [(.nm 1),(.c (.int 0))]),(.tup [(.gl 4 36),(.nm 0)])]))]⟩
noncomputable def f47:Fn:=⟨1,2,2,[(.asg 1 (.bin .Add (.bin .Add (.lst [(.tup [(.gl 2 34),(.c (.int 1))])]) (.call 3 44 [(.nm 0)])) (.lst [(.tup [(.gl 4 18),(.c (.int 90))])]))),(.ret (.bin .Add (.bin .Add (.nm 1) (.call 5 42 [(.nm 0),(.gl 6 128),(.gl 7 175)])) (.lst [(.tup [(.gl 8 165),(.c (.int 90))])])))]⟩
noncomputable def f48:Fn:=⟨10,10,2,[(.ex (.call 10 27 [(.nm 0),(.nm 1),(.gl 11 131),(.nm 2),(.nm 3),(.nm 4),(.nm 5),(.nm 6)])),(.ex (.call 12 29 [(.nm 0),(.nm 1),(.nm 7),(.nm 8),(.call 13 37 [(.nm 9)]),(.lst [])]))]⟩
noncomputable def f49:Fn:=⟨1,3,2,[(.asg 1 (.call 3 15 [(.attr (.nm 0) 42),(.c (.int 0))])),(.asg 2 (.bin .Add (.bin .Add (.call 4 44 [(.nm 0)]) (.call 5 43 [(.nm 0)])) (.lst [(.tup [(.gl 6 31),(.c (.int 0))]),(.tup [(.gl 7 22),(.c (.int 0))]),(.tup [(.gl 8 16),(.c (.int 9))])]))),(.asg 2 (.bin .Add (.bin .Add (.nm 2) (.call 4 44 [(.nm 0)])) (.lst [(.tup [(.gl 9 13),(.c (.int 1))]),(.tup [(.gl 10 8),(.gl 11 173)]),(.tup [(.gl 12 11),(.c (.int 2))]),(.tup [(.gl 13 165),(.c (.int 1))])]))),(.asg 2 (.bin .Add (.bin .Add (.nm 2) (.call 4 44 [(.nm 0)])) (.lst [(.tup [(.gl 10 8),(.c (.int 2))]),(.tup [(.gl 14 21),(.c (.int 0))]),(.tup [(.gl 13 165),(.c (.int 2))]),(.tup [(.gl 15 30),(.nm 1)]),(.tup [(.gl 16 36),(.c (.int 0))])]))),(.asg 2 (.bin .Add (.nm 2) (.lst [(.tup [(.gl 10 8),(.c (.int 0))]),(.tup [(.gl 16 36),(.c (.int 1))]),(.tup [(.gl 12 11),(.c (.int 4))]),(.tup [(.gl 13 165),(.c (.int 3))]),(.tup [(.gl 17 35),(.c (.int 0))]),(.tup [(.gl 17 35),(.c (.int 1))])]))),(.asg 2 (.bin .Add (.bin .Add (.bin .Add (.nm 2) (.call 5 43 [(.nm 0)])) (.lst [(.tup [(.gl 17 35),(.c (.int 1))]),(.tup [(.gl 18 32),(.nm 1)]),(.tup [(.gl 19 33),(.nm 1)])])) (.call 20 46 [(.c (.int 1)),(.gl 21 19)]))),(.asg 2 (.bin .Add (.bin .Add (.bin .Add (.nm 2) (.lst [(.tup [(.gl 13 165),(.c (.int 4))]),(.tup [(.gl 17 35),(.c (.int 1))])])) (.call 4 44 [(.nm 0)])) (.lst [(.tup [(.gl 8 16),(.c (.int 3))])]))),(.asg 2 (.bin .Add (.nm 2) (.lst [(.tup [(.gl 22 34),(.c (.int 0))]),(.tup [(.gl 17 35),(.c (.int 0))]),(.tup [(.gl 23 28),(.tup [(.call 24 33 [(.nm 0),(.gl 25 131)]),(.gl 26 87)])])]))),(.ret (.bin .Add (.nm 2) (.lst [(.tup [(.gl 13 165),(.c (.int 9))]),(.tup [(.gl 27 10),(.c (.int 0))])])))]⟩
noncomputable def f50:Fn:=⟨1,3,2,[(.asg 1 (.call 3 15 [(.attr (.nm 0) 42),(.c (.int 0))])),(.asg 2 (.bin .Add (.lst [(.tup [(.gl 4 34),(.c (.int 0))]),(.call 5 40 [(.call 6 33 [(.nm 0),(.gl 7 131)]),(.gl 8 172)])]) (.call 9 43 [(.nm 0)]))),(.asg 2 (.bin .Add (.bin .Add (.nm 2) (.call 10 44 [(.nm 0)])) (.lst [(.tup [(.gl 4 34),(.c (.int 1))]),(.tup [(.gl 11 33),(.nm 1)])]))),(.ret (.bin .Add (.bin .Add (.bin .Add (.nm 2) (.call 12 45 [(.nm 0),(.gl 13 88),(.gl 14 19)])) (.call 12 45 [(.nm 0),(.gl 15 89),(.gl 14 19)])) (.lst [(.tup [(.gl 16 10),(.c (.int 0))])])))]⟩
noncomputable def f51:Fn:=⟨1,3,2,[(.asg 1 (.call 3 15 [(.attr (.nm 0) 42),(.c (.int 0))])),(.asg 2 (.bin .Add (.bin .Add (.call 4 47 [(.nm 0)]) (.call 5 43 [(.nm 0)])) (.lst [(.tup [(.gl 6 34),(.c (.int 1))]),(.tup [(.gl 6 34),(.c (.int 2))]),(.tup [(.gl 7 33),(.nm 1)])]))),(.ret (.bin .Add (.bin .Add (.nm 2) (.call 8 45 [(.nm 0),(.gl 9 89),(.gl 10 19)])) (.lst [(.tup [(.gl 11 10),(.c (.int 0))])])))]⟩
noncomputable def f52:Fn:=⟨1,3,2,[(.asg 1 (.call 3 15 [(.attr (.nm 0) 42),(.c (.int 0))])),(.asg 2 (.bin .Add (.bin .Add (.call 4 47 [(.nm 0)]) (.call 5 45 [(.nm 0),(.gl 6 88),(.gl 7 20)])) (.lst [(.tup [(.gl 8 34),(.c (.int 1))]),(.tup [(.gl 9 36),(.c (.int 0))]),(.tup [(.gl 10 11),(.c (.int 2))]),(.tup [(.gl 11 165),(.c (.int 1))])]))),(.asg 2 (.bin .Add (.bin .Add (.bin .Add (.nm 2) (.call 12 43 [(.nm 0)])) (.lst [(.tup [(.gl 13 35),(.c (.int 0))])])) (.call 12 43 [(.nm 0)]))),(.asg 2 (.bin .Add (.nm 2) (.lst [(.tup [(.gl 13 35),(.c (.int 0))]),(.tup [(.gl 14 8),(.c (.int 1))]),(.tup [(.gl 15 19),(.c (.int 0))]),(.tup [(.gl 16 32),(.nm 1)]),(.tup [(.gl 17 33),(.nm 1)])]))),(.asg 2 (.bin .Add (.bin .Add (.bin .Add (.bin .Add (.nm 2) (.call 18 46 [(.c (.int 0)),(.gl 15 19)])) (.lst [(.tup [(.gl 11 165),(.c (.int 2))]),(.tup [(.gl 13 35),(.c (.int 0))])])) (.call 19 44 [(.nm 0)])) (.lst [(.tup [(.gl 20 16),(.c (.int 1))])]))),(.asg 2 (.bin .Add (.bin .Add (.bin .Add (.nm 2) (.call 12 43 [(.nm 0)])) (.call 19 44 [(.nm 0)])) (.lst [(.tup [(.gl 13 35),(.c (.int 1))]),(.tup [(.gl 17 33),(.nm 1)])]))),(.ret (.bin .Add (.bin .Add (.nm 2) (.call 5 45 [(.nm 0),(.gl 21 89),(.gl 15 19)])) (.lst [(.tup [(.gl 22 10),(.c (.int 0))])])))]⟩
noncomputable def f53:Fn:=⟨1,3,2,[(.asg 1 (.call 3 15 [(.attr (.nm 0) 42),(.c (.int 0))])),(.asg 2 (.bin .Add (.bin .Add (.bin .Add (.lst [(.tup [(.gl 4 34),(.c (.int 1))])]) (.call 5 44 [(.nm 0)])) (.lst [(.tup [(.gl 6 17),(.c (.int 90))])])) (.call 7 42 [(.nm 0),(.gl 8 128),(.gl 9 176)]))),(.asg 2 (.bin .Add (.nm 2) (.lst [(.tup [(.gl 10 165),(.c (.int 90))]),(.tup [(.gl 4 34),(.c (.int 0))]),(.call 11 40 [(.call 12 33 [(.nm 0),(.gl 13 131)]),(.gl 14 172)])]))),(.asg 2 (.bin .Add (.bin .Add (.nm 2) (.call 5 44 [(.nm 0)])) (.lst [(.tup [(.gl 15 36),(.c (.int 0))]),(.tup [(.gl 16 11),(.c (.int 2))]),(.tup [(.gl 10 165),(.c (.int 1))])]))),(.asg 2 (.bin .Add (.bin .Add (.bin .Add (.nm 2) (.call 17 43 [(.nm 0)])) (.lst [(.tup [(.gl 18 35),(.c (.int 0))])])) (.call 17 43 [(.nm 0)]))),(.asg 2 (.bin .Add (.nm 2) (.lst [(.tup [(.gl 18 35),(.c (.int 0))]),(.tup [(.gl 19 8),(.c (.int 1))]),(.tup [(.gl 20 20),(.c (.int 0))]),(.tup [(.gl 21 32),(.nm 1)]),(.tup [(.gl 22 33),(.nm 1)])]))),(.asg 2 (.bin .Add (.bin .Add (.nm 2) (.call 23 46 [(.c (.int 0)),(.gl 20 20)])) (.lst [(.tup [(.gl 10 165),(.c (.int 2))]),(.tup [(.gl 4 34),(.c (.int 1))]),(.tup [(.gl 18 35),(.c (.int 0))]),(.tup [(.gl 24 16),(.c (.int 1))])]))),(.asg 2 (.bin .Add (.bin .Add (.nm 2) (.call 17 43 [(.nm 0)])) (.lst [(.tup [(.gl 4 34),(.c (.int 1))]),(.tup [(.gl 4 34),(.c (.int 2))]),(.tup [(.gl 22 33),(.nm 1)])]))),(.ret (.bin .Add (.bin .Add (.bin .Add (.nm 2) (.call 25 45 [(.nm 0),(.gl 26 88),(.gl 27 19)])) (.call 25 45 [(.nm 0),(.gl 28 89),(.gl 27 19)])) (.lst [(.tup [(.gl 29 10),(.c (.int 0))])])))]⟩
noncomputable def f54:Fn:=⟨1,3,2,[(.asg 1 (.call 3 15 [(.attr (.nm 0) 42),(.c (.int 0))])),(.asg 2 (.bin .Add (.bin .Add (.lst [(.tup [(.gl 4 11),(.c (.int 2))]),(.tup [(.gl 5 165),(.c (.int 1))])]) (.call 6 43 [(.nm 0)])) (.lst [(.tup [(.gl 7 35),(.c (.int 0))]),(.tup [(.gl 7 35),(.c (.int 1))]),(.tup [(.gl 8 33),(.nm 1)])]))),(.asg 2 (.bin .Add (.bin .Add (.bin .Add (.bin .Add (.nm 2) (.call 9 46 [(.c (.int 0)),(.gl 10 19)])) (.lst [(.tup [(.gl 5 165),(.c (.int 2))]),(.tup [(.gl 7 35),(.c (.int 0))])])) (.call 11 44 [(.nm 0)])) (.lst [(.tup [(.gl 12 16),(.c (.int 1))])]))),(.asg 2 (.bin .Add (.nm 2) (.lst [(.tup [(.gl 13 34),(.c (.int 0))]),(.tup [(.gl 14 8),(.c (.int 0))]),(.tup [(.gl 15 28),(.tup [(.call 16 33 [(.nm 0),(.gl 17 131)]),(.gl 18 88)])])]))),(.ret (.bin .Add (.bin .Add (.nm 2) (.call 19 45 [(.nm 0),(.gl 20 89),(.gl 10 19)])) (.lst [(.tup [(.gl 21 10),(.c (.int 0))])])))]⟩
noncomputable def f55:Fn:=⟨1,3,2,[(.asg 1 (.call 3 15 [(.attr (.nm 0) 42),(.c (.int 0))])),(.asg 2 (.bin .Add (.lst [(.tup [(.gl 4 11),(.c (.int 4))]),(.tup [(.gl 5 165),(.c (.int 1))])]) (.call 6 43 [(.nm 0)]))),(.asg 2 (.bin .Add (.nm 2) (.lst [(.tup [(.gl 7 35),(.c (.int 0))]),(.tup [(.gl 8 32),(.nm 1)]),(.tup [(.gl 9 29),(.nm 1)]),(.tup [(.gl 10 36),(.c (.int 1))]),(.tup [(.gl 7 35),(.c (.int 1))]),(.tup [(.gl 11 13),(.c (.int 2))]),(.tup [(.gl 12 34),(.c (.int 1))]),(.tup [(.gl 9 29),(.nm 1)]),(.tup [(.gl 13 12),(.c (.int 5))]),(.tup [(.gl 4 11),(.c (.int 3))]),(.tup [(.gl 5 165),(.c (.int 2))]),(.tup [(.gl 12 34),(.c (.int 1))]),(.tup [(.gl 9 29),(.nm 1)]),(.tup [(.gl 13 12),(.c (.int 3))]),(.tup [(.gl 7 35),(.c (.int 1))]),(.tup [(.gl 12 34),(.c (.int 1))]),(.tup [(.gl 9 29),(.nm 1)]),(.tup [(.gl 14 23),(.tup [(.gl 15 54),(.gl 16 96),(.tup [])])]),(.tup [(.gl 11 13),(.c (.int 5))]),(.tup [(.gl 5 165),(.c (.int 3))])]))),(.asg 2 (.bin .Add (.bin .Add (.bin .Add (.bin .Add (.nm 2) (.call 17 46 [(.c (.int 0)),(.gl 18 19)])) (.lst [(.tup [(.gl 5 165),(.c (.int 4))]),(.tup [(.gl 7 35),(.c (.int 0))])])) (.call 19 44 [(.nm 0)])) (.lst [(.tup [(.gl 20 16),(.c (.int 1))])]))),(.ret (.bin .Add (.nm 2) (.lst [(.tup [(.gl 21 8),(.c (.int 0))]),(.tup [(.gl 22 10),(.c (.int 0))]),(.tup [(.gl 5 165),(.c (.int 5))]),(.tup [(.gl 21 8),(.c (.int 1))]),(.tup [(.gl 22 10),(.c (.int 0))])])))]⟩
noncomputable def f56:Fn:=⟨1,1,2,[(.ex (.call 1 25 [(.nm 0),(.gl 2 87),(.gl 3 131),(.c (.str "items")),(.call 4 14 [(.attr (.nm 0) 42),(.call 5 15 [(.attr (.nm 0) 42),(.c (.int 0))])]),(.gl 6 38),(.c (.int 0))])),(.ex (.call 1 25 [(.nm 0),(.gl 7 88),(.gl 3 131),(.c (.str "count")),(.gl 8 49),(.gl 6 38),(.c (.int 0))])),(.ex (.call 1 25 [(.nm 0),(.gl 9 89),(.gl 3 131),(.c (.str "version")),(.gl 8 49),(.gl 6 38),(.c (.int 0))]))]⟩
noncomputable def f57:Fn:=⟨1,6,2,[(.asg 1 (.call 6 15 [(.attr (.nm 0) 42),(.c (.int 0))])),(.asg 2 (.call 7 33 [(.nm 0),(.gl 8 131)])),(.asg 3 (.call 9 11 [(.attr (.nm 0) 42),(.gl 10 132),(.tup [(.nm 1)])])),(.asg 4 (.lst [(.tup [(.gl 11 34),(.c (.int 0))]),(.call 12 40 [(.gl 13 54),(.gl 14 95)]),(.tup [(.gl 11 34),(.c (.int 0))]),(.tup [(.gl 15 8),(.c (.int 0))]),(.tup [(.gl 16 30),(.nm 1)]),(.tup [(.gl 17 28),(.tup [(.nm 2),(.gl 18 87)])]),(.tup [(.gl 19 10),(.c (.int 0))])])),(.ex (.call 20 48 [(.nm 0),(.gl 21 99),(.c (.str ".ctor")),(.gl 22 39),(.bin .Add (.gl 23 121) (.gl 24 123)),(.gl 25 42),(.tup []),(.tup []),(.c (.int 2)),(.nm 4)])),(.ex (.call 20 48 [(.nm 0),(.gl 26 101),(.c (.str "get_Count")),(.gl 22 39),(.gl 24 123),(.gl 27 49),(.tup []),(.tup []),(.c (.int 1)),(.bin .Add (.call 28 44 [(.nm 0)]) (.lst [(.tup [(.gl 19 10),(.c (.int 0))])]))])),(.asg 5 (.bin .Add (.bin .Add (.call 29 47 [(.nm 0)]) (.call 30 43 [(.nm 0)])) (.lst [(.tup [(.gl 11 34),(.c (.int 1))]),(.tup [(.gl 31 32),(.nm 1)]),(.tup [(.gl 19 10),(.c (.int 0))])]))),(.ex (.call 20 48 [(.nm 0),(.gl 32 102),(.c (.str "get_Item")),(.gl 22 39),(.gl 24 123),(.nm 1),(.tup [(.gl 27 49)]),(.tup []),(.c (.int 2)),(.nm 5)])),(.ex (.call 20 48 [(.nm 0),(.gl 33 106),(.c (.str "Contains")),(.gl 22 39),(.c (.int 0)),(.gl 34 43),(.tup [(.nm 1)]),(.tup [(.gl 27 49),(.gl 13 54)]),(.c (.int 2)),(.call 35 55 [(.nm 0)])])),(.ex (.call 20 48 [(.nm 0),(.gl 36 107),(.c (.str "GetEnumerator")),(.gl 22 39),(.gl 37 174),(.call 9 11 [(.attr (.nm 0) 42),(.gl 38 130),(.tup [(.nm 1)])]),(.tup []),(.tup []),(.c (.int 1)),(.lst [(.tup [(.gl 11 34),(.c (.int 0))]),(.tup [(.gl 39 25),(.tup [(.nm 3),(.gl 40 109),(.tup [])])]),(.tup [(.gl 19 10),(.c (.int 0))])])]))]⟩
noncomputable def f58:Fn:=⟨1,3,2,[(.asg 1 (.call 3 15 [(.attr (.nm 0) 42),(.c (.int 0))])),(.asg 2 (.call 4 14 [(.attr (.nm 0) 42),(.nm 1)])),(.ex (.call 5 48 [(.nm 0),(.gl 6 172),(.c (.str "Grow")),(.gl 7 37),(.c (.int 0)),(.gl 8 42),(.tup []),(.tup [(.nm 2),(.gl 9 49)]),(.c (.int 4)),(.call 10 49 [(.nm 0)])])),(.ex (.call 5 48 [(.nm 0),(.gl 11 100),(.c (.str "Add")),(.gl 12 39),(.c (.int 0)),(.gl 8 42),(.tup [(.nm 1)]),(.tup []),(.c (.int 3)),(.call 13 50 [(.nm 0)])])),(.ex (.call 5 48 [(.nm 0),(.gl 14 103),(.c (.str "set_Item")),(.gl 12 39),(.gl 15 123),(.gl 8 42),(.tup [(.gl 9 49),(.nm 1)]),(.tup []),(.c (.int 3)),(.call 16 51 [(.nm 0)])])),(.ex (.call 5 48 [(.nm 0),(.gl 17 104),(.c (.str "RemoveAt")),(.gl 12 39),(.c (.int 0)),(.gl 8 42),(.tup [(.gl 9 49)]),(.tup [(.gl 9 49),(.nm 1)]),(.c (.int 5)),(.call 18 52 [(.nm 0)])])),(.ex (.call 5 48 [(.nm 0),(.gl 19 108),(.c (.str "Insert")),(.gl 12 39),(.c (.int 0)),(.gl 8 42),(.tup [(.gl 9 49),(.nm 1)]),(.tup [(.gl 9 49)]),(.c (.int 5)),(.call 20 53 [(.nm 0)])])),(.ex (.call 5 48 [(.nm 0),(.gl 21 105),(.c (.str "Clear")),(.gl 12 39),(.c (.int 0)),(.gl 8 42),(.tup []),(.tup [(.gl 9 49),(.nm 1)]),(.c (.int 3)),(.call 22 54 [(.nm 0)])]))]⟩
noncomputable def f59:Fn:=⟨9,9,2,[(.ex (.call 9 27 [(.nm 0),(.nm 1),(.gl 10 132),(.nm 2),(.gl 11 39),(.nm 3),(.nm 4),(.nm 5)])),(.ex (.call 12 29 [(.nm 0),(.nm 1),(.nm 6),(.nm 7),(.call 13 37 [(.nm 8)]),(.lst [])]))]⟩
noncomputable def f60:Fn:=⟨2,2,2,[(.ret (.lst [(.tup [(.gl 2 34),(.c (.int 0))]),(.tup [(.gl 3 27),(.tup [(.call 4 33 [(.nm 0),(.gl 5 132)]),(.nm 1)])])]))]⟩
noncomputable def f61:Fn:=⟨2,2,2,[(.ret (.bin .Add (.call 2 60 [(.nm 0),(.gl 3 90)]) (.lst [(.tup [(.gl 4 27),(.tup [(.call 5 33 [(.nm 0),(.gl 6 131)]),(.nm 1)])])])))]⟩
noncomputable def f62:Fn:=⟨1,3,2,[(.asg 1 (.call 3 33 [(.nm 0),(.gl 4 132)])),(.asg 2 (.tup [(.call 3 33 [(.nm 0),(.gl 5 131)]),(.gl 6 89)])),(.ret (.lst [(.tup [(.gl 7 34),(.c (.int 0))]),(.call 8 40 [(.gl 9 54),(.gl 10 95)]),(.tup [(.gl 7 34),(.c (.int 0))]),(.tup [(.gl 7 34),(.c (.int 1))]),(.tup [(.gl 11 28),(.tup [(.nm 1),(.gl 12 90)])]),(.tup [(.gl 7 34),(.c (.int 0))]),(.tup [(.gl 7 34),(.c (.int 1))]),(.tup [(.gl 13 27),(.nm 2)]),(.tup [(.gl 11 28),(.tup [(.nm 1),(.gl 14 93)])]),(.tup [(.gl 15 10),(.c (.int 0))])]))]⟩
noncomputable def f63:Fn:=⟨1,4,2,[(.asg 1 (.call 4 33 [(.nm 0),(.gl 5 132)])),(.asg 2 (.call 6 15 [(.attr (.nm 0) 42),(.c (.int 0))])),(.asg 3 (.bin .Add (.bin .Add (.call 7 60 [(.nm 0),(.gl 8 93)]) (.call 9 61 [(.nm 0),(.gl 10 89)])) (.lst [(.tup [(.gl 11 14),(.c (.int 1))])]))),(.asg 3 (.bin .Add (.bin .Add (.nm 3) (.call 12 42 [(.nm 0),(.gl 13 127),(.gl 14 177)])) (.lst [(.tup [(.gl 15 165),(.c (.int 1))])]))),(.asg 3 (.bin .Add (.bin .Add (.bin .Add (.nm 3) (.call 9 61 [(.nm 0),(.gl 16 88)])) (.call 7 60 [(.nm 0),(.gl 17 91)])) (.lst [(.tup [(.gl 18 15),(.c (.int 2))]),(.tup [(.gl 19 34),(.c (.int 0))])]))),(.asg 3 (.bin .Add (.bin .Add (.nm 3) (.call 9 61 [(.nm 0),(.gl 20 87)])) (.call 7 60 [(.nm 0),(.gl 17 91)]))),(.asg 3 (.bin .Add (.nm 3) (.lst [(.tup [(.gl 21 32),(.nm 2)]),(.tup [(.gl 22 28),(.tup [(.nm 1),(.gl 23 92)])]),(.tup [(.gl 19 34),(.c (.int 0))])]))),(.asg 3 (.bin .Add (.bin .Add (.nm 3) (.call 7 60 [(.nm 0),(.gl 17 91)])) (.lst [(.tup [(.gl 24 8),(.c (.int 1))]),(.tup [(.gl 25 19),(.c (.int 0))]),(.tup [(.gl 22 28),(.tup [(.nm 1),(.gl 17 91)])])]))),(.asg 3 (.bin .Add (.nm 3) (.lst [(.tup [(.gl 24 8),(.c (.int 1))]),(.tup [(.gl 26 10),(.c (.int 0))]),(.tup [(.gl 15 165),(.c (.int 2))])]))),(.ret (.bin .Add (.nm 3) (.lst [(.tup [(.gl 19 34),(.c (.int 0))]),(.tup [(.gl 27 35),(.c (.int 0))]),(.tup [(.gl 22 28),(.tup [(.nm 1),(.gl 23 92)])]),(.tup [(.gl 24 8),(.c (.int 0))]),(.tup [(.gl 26 10),(.c (.int 0))])])))]⟩
noncomputable def f64:Fn:=⟨1,3,2,[(.asg 1 (.call 3 15 [(.attr (.nm 0) 42),(.c (.int 0))])),(.asg 2 (.call 4 33 [(.nm 0),(.gl 5 131)])),(.ex (.call 6 25 [(.nm 0),(.gl 7 90),(.gl 8 132),(.c (.str "list")),(.nm 2),(.gl 9 37),(.c (.int 0))])),(.ex (.call 6 25 [(.nm 0),(.gl 10 91),(.gl 8 132),(.c (.str "at")),(.gl 11 49),(.gl 9 37),(.c (.int 0))])),(.ex (.call 6 25 [(.nm 0),(.gl 12 92),(.gl 8 132),(.c (.str "current")),(.nm 1),(.gl 9 37),(.c (.int 0))])),(.ex (.call 6 25 [(.nm 0),(.gl 13 93),(.gl 8 132),(.c (.str "version")),(.gl 11 49),(.gl 9 37),(.c (.int 0))])),(.ex (.call 14 59 [(.nm 0),(.gl 15 109),(.c (.str ".ctor")),(.bin .Add (.gl 16 121) (.gl 17 123)),(.gl 18 42),(.tup [(.nm 2)]),(.tup []),(.c (.int 2)),(.call 19 62 [(.nm 0)])])),(.ex (.call 14 59 [(.nm 0),(.gl 20 110),(.c (.str "MoveNext")),(.gl 21 174),(.gl 22 43),(.tup []),(.tup [(.nm 1)]),(.c (.int 3)),(.call 23 63 [(.nm 0)])])),(.ex (.call 14 59 [(.nm 0),(.gl 24 111),(.c (.str "get_Current")),(.bin .Add (.gl 21 174) (.gl 17 123)),(.nm 1),(.tup []),(.tup []),(.c (.int 1)),(.bin .Add (.call 25 60 [(.nm 0),(.gl 12 92)]) (.lst [(.tup [(.gl 26 10),(.c (.int 0))])]))])),(.ex (.call 14 59 [(.nm 0),(.gl 27 112),(.c (.str "Dispose")),(.gl 21 174),(.gl 18 42),(.tup []),(.tup []),(.c (.int 0)),(.lst [(.tup [(.gl 26 10),(.c (.int 0))])])])),(.ex (.call 28 24 [(.nm 0),(.gl 8 132),(.call 29 11 [(.attr (.nm 0) 42),(.gl 30 130),(.tup [(.nm 1)])])])),(.ex (.call 31 38 [(.nm 0),(.gl 8 132),(.c (.str "Current")),(.nm 1),(.gl 24 111),(.c (.int 0)),(.tup [])]))]⟩
noncomputable def f65:Fn:=⟨1,2,2,[(.asg 1 (.call 2 15 [(.attr (.nm 0) 42),(.c (.int 0))])),(.ex (.call 3 56 [(.nm 0)])),(.ex (.call 4 57 [(.nm 0)])),(.ex (.call 5 58 [(.nm 0)])),(.ex (.call 6 24 [(.nm 0),(.gl 7 131),(.call 8 11 [(.attr (.nm 0) 42),(.gl 9 129),(.tup [(.nm 1)])])])),(.ex (.call 10 38 [(.nm 0),(.gl 7 131),(.c (.str "Count")),(.gl 11 49),(.gl 12 101),(.c (.int 0)),(.tup [])])),(.ex (.call 10 38 [(.nm 0),(.gl 7 131),(.c (.str "Item")),(.nm 1),(.gl 13 102),(.gl 14 103),(.tup [(.gl 11 49)])])),(.ex (.call 15 64 [(.nm 0)]))]⟩
noncomputable def T4:List IS:=[(.asg2 8 9 (.sub (.attr (.nm 3) 40) (.nm 6))),(.augN 6 (.c (.int 1))),(.ife (.cmp .Eq (.nm 8) (.gl 15 34)) [(.ex (.app (.nm 5) (.sub (.nm 2) (.nm 9))))] [(.ife (.cmp .Eq (.nm 8) (.gl 16 27)) [(.ex (.app (.nm 5) (.sub (.sub (.wk (.nm 0) .objs) (.pop (.nm 5))) (.sub (.nm 9) (.c (.int 1))))))] [(.ife (.cmp .Eq (.nm 8) (.gl 17 35)) [(.ex (.app (.nm 5) (.sub (.nm 4) (.nm 9))))] [(.ife (.cmp .Eq (.nm 8) (.gl 18 8)) [(.ex (.app (.nm 5) (.nm 9)))] [(.ife (.cmp .Eq (.nm 8) (.gl 19 19)) [(.asg 10 (.pop (.nm 5))),(.ex (.app (.nm 5) (.bin .Add (.pop (.nm 5)) (.nm 10))))] [(.ife (.cmp .Eq (.nm 8) (.gl 20 28)) [(.asg 10 (.pop (.nm 5))),(.setS (.sub (.wk (.nm 0) .objs) (.pop (.nm 5))) (.sub (.nm 9) (.c (.int 1))) (.nm 10))] [(.ife (.cmp .Eq (.nm 8) (.gl 21 32)) [(.asg 10 (.pop (.nm 5))),(.asg 11 (.sub (.wk (.nm 0) .arrays) (.pop (.nm 5)))),(.ife (.bop .Or [(.cmp .Lt (.nm 10) (.c (.int 0))),(.cmp .GtE (.nm 10) (.bi 22 .len (.nm 11)))]) [(.ret (.tup [(.c (.str "bounds")),(.lst [(.nm 1)])]))] []),(.ex (.app (.nm 5) (.sub (.nm 11) (.nm 10))))] [(.ife (.cmp .Eq (.nm 8) (.gl 23 33)) [(.asg 12 (.pop (.nm 5))),(.asg 10 (.pop (.nm 5))),(.asg 11 (.sub (.wk (.nm 0) .arrays) (.pop (.nm 5)))),(.ife (.bop .Or [(.cmp .Lt (.nm 10) (.c (.int 0))),(.cmp .GtE (.nm 10) (.bi 22 .len (.nm 11)))]) [(.ret (.tup [(.c (.str "bounds")),(.lst [(.nm 1)])]))] []),(.setS (.nm 11) (.nm 10) (.nm 12))] [(.ife (.cmp .Eq (.nm 8) (.gl 24 36)) [(.setS (.nm 4) (.nm 9) (.pop (.nm 5)))] [(.ife (.cmp .Eq (.nm 8) (.gl 25 10)) [(.ret (.tup [(.c (.str "gives")),(.nm 5)]))] [(.asg 13 (.call 26 67 [(.nm 0),(.nm 8),(.nm 9),(.nm 5),(.nm 6)])),(.ife (.bi 27 .isTup (.nm 13)) [(.ret (.nm 13))] []),(.asg 6 (.nm 13))])])])])])])])])])])]
noncomputable def f66:Fn:=⟨3,14,1,[(.asg 3 (.attr (.sub (.attr (.wk (.nm 0) .store) 15) (.nm 1)) 36)),(.asg 4 (.comp (.c 0) "k" (.attr (.nm 3) 38))),(.asg 5 (.lst [])),(.asg 6 (.c (.int 0))),(.for1 7 (.bi 14 .range (.c (.int 400))) T4),(.ret (.tup [(.c (.str "endless")),(.lst [(.nm 1)])]))]⟩
noncomputable def f67:Fn:=⟨5,8,0,[(.ife (.cmp .Eq (.nm 1) (.gl 8 11)) [(.ret (.nm 2))] []),(.ife (.cmp .Eq (.nm 1) (.gl 9 22)) [(.ret (.nm 4))] []),(.ife (.cmp .Eq (.nm 1) (.gl 10 31)) [(.ex (.app (.nm 3) (.bi 11 .len (.sub (.wk (.nm 0) .arrays) (.pop (.nm 3))))))] [(.ife (.cmp .Eq (.nm 1) (.gl 12 24)) [(.ex (.app (.nm 3) (.c (.int 0))))] [(.ife (.cmp .Eq (.nm 1) (.gl 13 29)) [(.ex (.app (.nm 3) (.tup [(.c (.str "box")),(.pop (.nm 3))])))] [(.ife (.bop .Or [(.cmp .Eq (.nm 1) (.gl 14 13)),(.cmp .Eq (.nm 1) (.gl 15 12))]) [(.ife (.cmp .Eq (.cmp .NotEq (.pop (.nm 3)) (.c (.int 0))) (.cmp .Eq (.nm 1) (.gl 14 13))) [(.ret (.nm 2))] [])] [(.ife (.cmp .Eq (.nm 1) (.gl 16 30)) [(.wArr 0 (.pop (.nm 3))),(.ex (.app (.nm 3) (.bin .Sub (.bi 11 .len (.wk (.nm 0) .arrays)) (.c (.int 1)))))] [(.ife (.cmp .Eq (.nm 1) (.gl 18 26)) [(.ret (.tup [(.c (.str "throws")),(.lst [(.pop (.nm 3))])]))] [(.ife (.bop .And [(.cmp .Eq (.nm 1) (.gl 19 9)),(.cmp .Eq (.nm 2) (.tup [(.gl 20 54),(.gl 21 95),(.tup [])]))]) [(.ex (.pop (.nm 3)))] [(.ife (.cmp .Eq (.nm 1) (.gl 19 9)) [(.asg 5 (.call 22 66 [(.nm 0),(.sub (.nm 2) (.c (.int 1))),(.lst [(.pop (.nm 3))])])),(.ife (.bop .Or [(.cmp .NotEq (.sub (.nm 2) (.c (.int 1))) (.gl 23 172)),(.cmp .NotEq (.nm 5) (.tup [(.c (.str "gives")),(.lst [])]))]) [(.ret (.tup [(.c (.str "call")),(.lst [(.nm 5)])]))] [])] [(.ife (.bop .And [(.cmp .Eq (.nm 1) (.gl 24 25)),(.cmp .Eq (.sub (.nm 2) (.c (.int 1))) (.gl 25 109))]) [(.wObj 0 [(26,90),(27,91),(28,92),(29,93)] [(.c (.int 0)),(.c (.int 0)),(.c (.int 0)),(.c (.int 0))]),(.asg 6 (.bin .Sub (.bi 11 .len (.wk (.nm 0) .objs)) (.c (.int 1)))),(.asg 5 (.call 22 66 [(.nm 0),(.gl 25 109),(.lst [(.nm 6),(.pop (.nm 3))])])),(.ife (.cmp .NotEq (.nm 5) (.tup [(.c (.str "gives")),(.lst [])])) [(.ret (.tup [(.c (.str "walker")),(.lst [(.nm 5)])]))] []),(.ex (.app (.nm 3) (.nm 6)))] [(.ife (.cmp .Eq (.nm 1) (.gl 24 25)) [(.ex (.pop (.nm 3))),(.ex (.app (.nm 3) (.sub (.meth (.attr (.wk (.nm 0) .store) 42) 49 2 [(.sub (.nm 2) (.c (.int 0)))]) (.c (.int 1)))))] [(.asg 7 (.pop (.nm 3))),(.ret (.call 30 68 [(.nm 1),(.nm 2),(.nm 3),(.pop (.nm 3)),(.nm 7),(.nm 4)]))])])])])])])])])])]),(.ret (.nm 4))]⟩
noncomputable def f68:Fn:=⟨6,6,0,[(.ife (.cmp .Eq (.nm 0) (.gl 6 20)) [(.ex (.app (.nm 2) (.bin .Sub (.nm 3) (.nm 4)))),(.ret (.nm 5))] []),(.ife (.cmp .Eq (.nm 0) (.gl 7 21)) [(.ex (.app (.nm 2) (.bin .Mult (.nm 3) (.nm 4)))),(.ret (.nm 5))] []),(.ife (.bop .And [(.cmp .Eq (.nm 0) (.gl 8 23)),(.cmp .Eq (.nm 1) (.tup [(.gl 9 54),(.gl 10 96),(.tup [])]))]) [(.ex (.app (.nm 2) (.ite (.cmp .Eq (.nm 3) (.nm 4)) (.c (.int 1)) (.c (.int 0))))),(.ret (.nm 5))] []),(.ife (.cmp .Eq (.nm 0) (.gl 11 16)) [(.ret (.ite (.cmp .Lt (.nm 3) (.nm 4)) (.nm 1) (.nm 5)))] []),(.ife (.cmp .Eq (.nm 0) (.gl 12 15)) [(.ret (.ite (.cmp .LtE (.nm 3) (.nm 4)) (.nm 1) (.nm 5)))] []),(.ife (.cmp .Eq (.nm 0) (.gl 13 14)) [(.ret (.ite (.cmp .Eq (.nm 3) (.nm 4)) (.nm 1) (.nm 5)))] []),(.ife (.cmp .Eq (.nm 0) (.gl 14 18)) [(.ret (.ite (.cmp .Lt (.bin .Mod (.nm 3) (.bin .Pow (.c (.int 2)) (.c (.int 32)))) (.bin .Mod (.nm 4) (.bin .Pow (.c (.int 2)) (.c (.int 32))))) (.nm 1) (.nm 5)))] []),(.ife (.cmp .Eq (.nm 0) (.gl 15 17)) [(.ret (.ite (.cmp .LtE (.bin .Mod (.nm 3) (.bin .Pow (.c (.int 2)) (.c (.int 32)))) (.bin .Mod (.nm 4) (.bin .Pow (.c (.int 2)) (.c (.int 32))))) (.nm 1) (.nm 5)))] []),(.ret (.tup [(.c (.str "op")),(.lst [(.nm 0)])]))]⟩
noncomputable def f69:Fn:=⟨3,3,0,[(.wArr2 0 (.nm 1) (.bin .Sub (.nm 2) (.bi 4 .len (.nm 1)))),(.wObj 0 [(5,87),(6,88),(7,89)] [(.bin .Sub (.bi 4 .len (.wk (.nm 0) .arrays)) (.c (.int 1))),(.bi 4 .len (.nm 1)),(.bi 4 .len (.nm 1))]),(.setS (.wk (.nm 0) .versions) (.bin .Sub (.bi 4 .len (.wk (.nm 0) .objs)) (.c (.int 1))) (.bi 4 .len (.nm 1))),(.ret (.bin .Sub (.bi 4 .len (.wk (.nm 0) .objs)) (.c (.int 1))))]⟩
noncomputable def f70:Fn:=⟨1,2,0,[(.wObj 0 [(2,87),(3,88),(4,89)] [(.c (.int 0)),(.c (.int 0)),(.c (.int 0))]),(.asg 1 (.bin .Sub (.bi 5 .len (.wk (.nm 0) .objs)) (.c (.int 1)))),(.setS (.wk (.nm 0) .versions) (.nm 1) (.c (.int 0))),(.ife (.cmp .NotEq (.call 6 66 [(.nm 0),(.gl 7 99),(.lst [(.nm 1)])]) (.tup [(.c (.str "gives")),(.lst [])])) [(.setS (.wk (.nm 0) .versions) (.nm 1) (.neg (.c (.int 1))))] []),(.ret (.nm 1))]⟩
noncomputable def f71:Fn:=⟨2,3,0,[(.asg 2 (.sub (.wk (.nm 0) .objs) (.nm 1))),(.ret (.tup [(.comp .var "v" (.sub (.wk (.nm 0) .arrays) (.sub (.nm 2) (.gl 3 87)))),(.sub (.nm 2) (.gl 4 88))]))]⟩
noncomputable def f72:Fn:=⟨4,4,0,[(.augS (.wk (.nm 0) .versions) (.nm 1) (.c (.int 1))),(.ret (.bop .And [(.cmp .Eq (.call 4 66 [(.nm 0),(.nm 2),(.bin .Add (.lst [(.nm 1)]) (.nm 3))]) (.tup [(.c (.str "gives")),(.lst [])])),(.cmp .Eq (.sub (.sub (.wk (.nm 0) .objs) (.nm 1)) (.gl 5 89)) (.sub (.wk (.nm 0) .versions) (.nm 1)))]))]⟩
noncomputable def f73:Fn:=⟨1,6,0,[(.asg2 1 2 (.wk (.nm 0) .pair)),(.asg2 3 4 (.call 6 71 [(.nm 0),(.nm 1)])),(.for1 5 (.slcF (.nm 3) (.nm 4)) [(.ife (.cmp .NotEq (.nm 5) (.c (.int 0))) [(.ret (.c (.bool false)))] [])]),(.ife (.cmp .NotIn (.bi 7 .len (.nm 3)) (.tup [(.c (.int 0)),(.c (.int 4)),(.c (.int 8)),(.c (.int 16))])) [(.ret (.c (.bool false)))] []),(.ret (.bop .And [(.cmp .Eq (.call 6 71 [(.nm 0),(.nm 2)]) (.tup [(.nm 3),(.nm 4)])),(.cmp .Eq (.sub (.sub (.wk (.nm 0) .objs) (.nm 1)) (.gl 8 89)) (.sub (.wk (.nm 0) .versions) (.nm 1))),(.cmp .Eq (.sub (.sub (.wk (.nm 0) .objs) (.nm 2)) (.gl 8 89)) (.sub (.wk (.nm 0) .versions) (.nm 2)))]))]⟩
noncomputable def f74:Fn:=⟨1,1,0,[(.ret (.bin .Add (.bin .Mod (.bin .FloorDiv (.nm 0) (.c (.int 11))) (.c (.int 9))) (.c (.int 1))))]⟩
noncomputable def f75:Fn:=⟨5,7,0,[(.asg 5 (.call 7 74 [(.nm 4)])),(.asg 6 (.bi 8 .len (.sub (.call 9 71 [(.nm 0),(.nm 1)]) (.c (.int 0))))),(.ife (.bop .Or [(.not (.call 10 72 [(.nm 0),(.nm 1),(.gl 11 100),(.lst [(.nm 5)])])),(.not (.call 10 72 [(.nm 0),(.nm 2),(.gl 12 108),(.lst [(.nm 3),(.nm 5)])]))]) [(.ret (.c (.bool false)))] []),(.ife (.bop .And [(.cmp .Lt (.nm 3) (.nm 6)),(.cmp .NotEq (.bi 8 .len (.sub (.call 9 71 [(.nm 0),(.nm 1)]) (.c (.int 0)))) (.nm 6))]) [(.ret (.c (.bool false)))] []),(.ret (.bop .And [(.cmp .Eq (.call 13 66 [(.nm 0),(.gl 14 102),(.lst [(.nm 1),(.nm 3)])]) (.tup [(.c (.str "gives")),(.lst [(.nm 5)])])),(.cmp .Eq (.call 13 66 [(.nm 0),(.gl 15 101),(.lst [(.nm 2)])]) (.tup [(.c (.str "gives")),(.lst [(.bin .Add (.nm 3) (.c (.int 1)))])]))]))]⟩
noncomputable def f76:Fn:=⟨5,10,0,[(.asg 5 (.call 10 74 [(.nm 4)])),(.asg 6 (.bin .Mod (.nm 4) (.bin .Add (.nm 3) (.c (.int 1))))),(.asg 7 (.slcT (.sub (.call 11 71 [(.nm 0),(.nm 1)]) (.c (.int 0))) (.nm 3))),(.ife (.bop .Or [(.not (.call 12 72 [(.nm 0),(.nm 1),(.gl 13 108),(.lst [(.nm 6),(.nm 5)])])),(.cmp .NotEq (.call 14 66 [(.nm 0),(.gl 15 102),(.lst [(.nm 1),(.nm 6)])]) (.tup [(.c (.str "gives")),(.lst [(.nm 5)])]))]) [(.ret (.c (.bool false)))] []),(.ife (.not (.call 12 72 [(.nm 0),(.nm 1),(.gl 16 104),(.lst [(.nm 6)])])) [(.ret (.c (.bool false)))] []),(.asg2 8 9 (.call 11 71 [(.nm 0),(.nm 1)])),(.ret (.bop .And [(.cmp .Eq (.nm 9) (.nm 3)),(.cmp .Eq (.slcT (.nm 8) (.nm 3)) (.nm 7)),(.call 12 72 [(.nm 0),(.nm 2),(.gl 17 100),(.lst [(.nm 5)])]),(.call 12 72 [(.nm 0),(.nm 2),(.gl 16 104),(.lst [(.nm 3)])])]))]⟩
noncomputable def f77:Fn:=⟨5,7,0,[(.asg 5 (.bin .Mod (.nm 4) (.nm 3))),(.asg 6 (.call 7 74 [(.nm 4)])),(.ret (.bop .And [(.call 8 72 [(.nm 0),(.nm 1),(.gl 9 103),(.lst [(.nm 5),(.bin .Add (.nm 6) (.c (.int 10)))])]),(.call 8 72 [(.nm 0),(.nm 1),(.gl 9 103),(.lst [(.nm 5),(.nm 6)])]),(.call 8 72 [(.nm 0),(.nm 2),(.gl 10 104),(.lst [(.nm 5)])]),(.call 8 72 [(.nm 0),(.nm 2),(.gl 11 108),(.lst [(.nm 5),(.nm 6)])]),(.cmp .Eq (.call 12 66 [(.nm 0),(.gl 13 102),(.lst [(.nm 2),(.nm 5)])]) (.tup [(.c (.str "gives")),(.lst [(.nm 6)])]))]))]⟩
noncomputable def f78:Fn:=⟨5,8,0,[(.asg 5 (.bin .Mod (.nm 4) (.bin .Add (.nm 3) (.c (.int 1))))),(.asg 6 (.bin .Add (.nm 5) (.bin .Mod (.bin .FloorDiv (.nm 4) (.c (.int 7))) (.bin .Sub (.bin .Add (.nm 3) (.c (.int 1))) (.nm 5))))),(.asg 7 (.call 8 74 [(.nm 4)])),(.ret (.bop .And [(.call 9 72 [(.nm 0),(.nm 1),(.gl 10 108),(.lst [(.nm 5),(.nm 7)])]),(.call 9 72 [(.nm 0),(.nm 1),(.gl 10 108),(.lst [(.bin .Add (.nm 6) (.c (.int 1))),(.bin .Add (.nm 7) (.c (.int 10)))])]),(.call 9 72 [(.nm 0),(.nm 2),(.gl 10 108),(.lst [(.nm 6),(.bin .Add (.nm 7) (.c (.int 10)))])]),(.call 9 72 [(.nm 0),(.nm 2),(.gl 10 108),(.lst [(.nm 5),(.nm 7)])])]))]⟩
noncomputable def f79:Fn:=⟨5,7,0,[(.asg 5 (.bin .Mod (.nm 4) (.bin .Sub (.nm 3) (.c (.int 1))))),(.asg 6 (.bin .Add (.bin .Add (.nm 5) (.c (.int 1))) (.bin .Mod (.bin .FloorDiv (.nm 4) (.c (.int 7))) (.bin .Sub (.bin .Sub (.nm 3) (.c (.int 1))) (.nm 5))))),(.ret (.bop .And [(.call 7 72 [(.nm 0),(.nm 1),(.gl 8 104),(.lst [(.nm 6)])]),(.call 7 72 [(.nm 0),(.nm 1),(.gl 8 104),(.lst [(.nm 5)])]),(.call 7 72 [(.nm 0),(.nm 2),(.gl 8 104),(.lst [(.nm 5)])]),(.call 7 72 [(.nm 0),(.nm 2),(.gl 8 104),(.lst [(.bin .Sub (.nm 6) (.c (.int 1)))])])]))]⟩
noncomputable def f80:Fn:=⟨4,11,0,[(.asg2 4 5 (.call 11 71 [(.nm 0),(.nm 1)])),(.ife (.cmp .Eq (.bin .Mod (.nm 3) (.c (.int 2))) (.c (.int 0))) [(.ife (.bop .Or [(.not (.call 12 72 [(.nm 0),(.nm 1),(.gl 13 105),(.lst [])])),(.cmp .NotEq (.call 11 71 [(.nm 0),(.nm 1)]) (.tup [(.comp (.c 0) "v" (.nm 4)),(.c (.int 0))]))]) [(.ret (.c (.bool false)))] []),(.for1 6 (.bi 14 .range (.nm 2)) [(.ife (.cmp .Eq (.bin .Mod (.bin .Add (.bin .FloorDiv (.nm 3) (.c (.int 2))) (.nm 6)) (.c (.int 2))) (.c (.int 0))) [(.asg 7 (.call 12 72 [(.nm 0),(.nm 1),(.gl 15 100),(.lst [(.sub (.nm 4) (.nm 6))])]))] [(.asg 7 (.call 12 72 [(.nm 0),(.nm 1),(.gl 16 108),(.lst [(.nm 6),(.sub (.nm 4) (.nm 6))])]))]),(.ife (.not (.nm 7)) [(.ret (.c (.bool false)))] [])]),(.ret (.cmp .Eq (.call 11 71 [(.nm 0),(.nm 1)]) (.tup [(.nm 4),(.nm 5)])))] []),(.asg 8 (.call 17 70 [(.nm 0)])),(.for1 6 (.bi 14 .range (.nm 2)) [(.ife (.not (.call 12 72 [(.nm 0),(.nm 8),(.gl 16 108),(.lst [(.c (.int 0)),(.sub (.nm 4) (.bin .Sub (.bin .Sub (.nm 2) (.c (.int 1))) (.nm 6)))])])) [(.ret (.c (.bool false)))] [])]),(.asg2 9 10 (.call 11 71 [(.nm 0),(.nm 8)])),(.ife (.bop .Or [(.cmp .NotEq (.sub (.sub (.wk (.nm 0) .objs) (.nm 8)) (.gl 18 89)) (.nm 2)),(.cmp .NotEq (.nm 10) (.nm 2)),(.cmp .Gt (.bi 19 .len (.nm 9)) (.bi 19 .len (.nm 4)))]) [(.ret (.c (.bool false)))] []),(.ret (.bop .And [(.cmp .Eq (.nm 9) (.slcT (.nm 4) (.bi 19 .len (.nm 9)))),(.cmp .Eq (.cmp .Gt (.bi 19 .len (.nm 9)) (.c (.int 0))) (.cmp .Gt (.nm 2) (.c (.int 0))))]))]⟩
noncomputable def f81:Fn:=⟨4,8,0,[(.asg 4 (.bin .Add (.bin .Mod (.bin .FloorDiv (.nm 3) (.c (.int 25))) (.c (.int 9))) (.c (.int 1)))),(.asg 5 (.bin .Mod (.nm 3) (.c (.int 5)))),(.ife (.cmp .Eq (.nm 2) (.c (.int 0))) [(.asg 5 (.c (.int 0)))] []),(.for1 6 (.nm 1) [(.ife (.cmp .Eq (.nm 5) (.c (.int 0))) [(.asg 7 (.call 8 72 [(.nm 0),(.nm 6),(.gl 9 100),(.lst [(.nm 4)])]))] [(.ife (.cmp .Eq (.nm 5) (.c (.int 1))) [(.asg 7 (.call 8 72 [(.nm 0),(.nm 6),(.gl 10 108),(.lst [(.bin .Mod (.bin .FloorDiv (.nm 3) (.c (.int 5))) (.bin .Add (.nm 2) (.c (.int 1)))),(.nm 4)])]))] [(.ife (.cmp .Eq (.nm 5) (.c (.int 2))) [(.asg 7 (.call 8 72 [(.nm 0),(.nm 6),(.gl 11 104),(.lst [(.bin .Mod (.bin .FloorDiv (.nm 3) (.c (.int 5))) (.nm 2))])]))] [(.ife (.cmp .Eq (.nm 5) (.c (.int 3))) [(.asg 7 (.call 8 72 [(.nm 0),(.nm 6),(.gl 12 103),(.lst [(.bin .Mod (.bin .FloorDiv (.nm 3) (.c (.int 5))) (.nm 2)),(.nm 4)])]))] [(.asg 7 (.call 8 72 [(.nm 0),(.nm 6),(.gl 13 105),(.lst [])]))])])])]),(.ife (.not (.nm 7)) [(.ret (.c (.bool false)))] [])]),(.ret (.c (.bool true)))]⟩
noncomputable def f82:Fn:=⟨2,3,0,[(.asg 2 (.call 3 66 [(.nm 0),(.gl 4 107),(.lst [(.nm 1)])])),(.ife (.cmp .NotEq (.nm 2) (.tup [(.c (.str "gives")),(.lst [(.bin .Sub (.bi 5 .len (.wk (.nm 0) .objs)) (.c (.int 1)))])])) [(.setS (.wk (.nm 0) .versions) (.nm 1) (.neg (.c (.int 1))))] []),(.ret (.bin .Sub (.bi 5 .len (.wk (.nm 0) .objs)) (.c (.int 1))))]⟩
noncomputable def f83:Fn:=⟨5,6,0,[(.asg 5 (.ite (.cmp .Lt (.nm 3) (.nm 4)) (.tup [(.c (.int 1)),(.sub (.nm 2) (.nm 3))]) (.tup [(.c (.int 0)),(.c (.int 0))]))),(.ret (.bop .And [(.cmp .Eq (.call 6 66 [(.nm 0),(.gl 7 110),(.lst [(.nm 1)])]) (.tup [(.c (.str "gives")),(.lst [(.sub (.nm 5) (.c (.int 0)))])])),(.cmp .Eq (.call 6 66 [(.nm 0),(.gl 8 111),(.lst [(.nm 1)])]) (.tup [(.c (.str "gives")),(.lst [(.sub (.nm 5) (.c (.int 1)))])]))]))]⟩
noncomputable def f84:Fn:=⟨3,3,0,[(.ret (.bop .And [(.cmp .Eq (.call 3 66 [(.nm 0),(.gl 4 110),(.lst [(.nm 1)])]) (.tup [(.c (.str "throws")),(.lst [(.gl 5 127)])])),(.cmp .Eq (.call 3 66 [(.nm 0),(.gl 6 111),(.lst [(.nm 1)])]) (.tup [(.c (.str "gives")),(.lst [(.nm 2)])]))]))]⟩
noncomputable def f85:Fn:=⟨5,10,0,[(.asg 5 (.sub (.call 10 71 [(.nm 0),(.nm 1)]) (.c (.int 0)))),(.asg 6 (.call 11 82 [(.nm 0),(.nm 1)])),(.asg 7 (.call 11 82 [(.nm 0),(.nm 1)])),(.ife (.not (.call 12 83 [(.nm 0),(.nm 6),(.nm 5),(.c (.int 0)),(.nm 3)])) [(.ret (.c (.bool false)))] []),(.asg 8 (.ite (.cmp .Gt (.nm 3) (.c (.int 0))) (.sub (.nm 5) (.c (.int 0))) (.c (.int 0)))),(.ife (.bop .Or [(.not (.call 13 81 [(.nm 0),(.tup [(.nm 1),(.nm 2)]),(.nm 3),(.nm 4)])),(.not (.call 14 84 [(.nm 0),(.nm 6),(.nm 8)])),(.not (.call 14 84 [(.nm 0),(.nm 7),(.c (.int 0))]))]) [(.ret (.c (.bool false)))] []),(.asg2 5 9 (.call 10 71 [(.nm 0),(.nm 1)])),(.ret (.bop .And [(.call 12 83 [(.nm 0),(.call 11 82 [(.nm 0),(.nm 1)]),(.nm 5),(.c (.int 0)),(.nm 9)]),(.call 14 84 [(.nm 0),(.nm 6),(.nm 8)])]))]⟩
noncomputable def f86:Fn:=⟨4,7,0,[(.asg 4 (.sub (.call 7 71 [(.nm 0),(.nm 1)]) (.c (.int 0)))),(.asg 5 (.call 8 82 [(.nm 0),(.nm 1)])),(.for1 6 (.bi 9 .range (.nm 3)) [(.ife (.bop .Or [(.not (.call 10 83 [(.nm 0),(.nm 5),(.nm 4),(.nm 6),(.nm 3)])),(.cmp .NotEq (.call 11 66 [(.nm 0),(.gl 12 102),(.lst [(.nm 2),(.nm 6)])]) (.tup [(.c (.str "gives")),(.lst [(.sub (.nm 4) (.nm 6))])]))]) [(.ret (.c (.bool false)))] [])]),(.ret (.bop .And [(.call 10 83 [(.nm 0),(.nm 5),(.nm 4),(.nm 3),(.nm 3)]),(.call 10 83 [(.nm 0),(.nm 5),(.nm 4),(.nm 3),(.nm 3)])]))]⟩
noncomputable def f87:Fn:=⟨4,8,0,[(.asg 4 (.tup [(.c (.str "throws")),(.lst [(.gl 8 128)])])),(.for1 5 (.tup [(.neg (.c (.int 1))),(.nm 2),(.sub (.tup [(.bin .Add (.nm 2) (.c (.int 1))),(.c (.int 2147483647)),(.neg (.c (.int 2147483648)))]) (.bin .Mod (.nm 3) (.c (.int 3))))]) [(.for2 6 7 (.tup [(.tup [(.gl 9 102),(.lst [(.nm 5)])]),(.tup [(.gl 10 103),(.lst [(.nm 5),(.c (.int 5))])]),(.tup [(.gl 11 104),(.lst [(.nm 5)])])]) [(.ife (.cmp .NotEq (.call 12 66 [(.nm 0),(.nm 6),(.bin .Add (.lst [(.nm 1)]) (.nm 7))]) (.nm 4)) [(.ret (.c (.bool false)))] [])]),(.ife (.bop .And [(.cmp .NotEq (.nm 5) (.nm 2)),(.cmp .NotEq (.call 12 66 [(.nm 0),(.gl 13 108),(.lst [(.nm 1),(.nm 5),(.c (.int 5))])]) (.nm 4))]) [(.ret (.c (.bool false)))] [])]),(.ret (.c (.bool true)))]⟩
noncomputable def f88:Fn:=⟨5,8,0,[(.asg 5 (.call 8 74 [(.nm 4)])),(.ife (.cmp .NotEq (.call 9 66 [(.nm 0),(.gl 10 106),(.lst [(.nm 1),(.c (.int 0))])]) (.tup [(.c (.str "gives")),(.lst [(.c (.int 0))])])) [(.ret (.c (.bool false)))] []),(.asg 6 (.c (.int 0))),(.for1 7 (.bi 11 .range (.nm 3)) [(.ife (.cmp .Eq (.call 9 66 [(.nm 0),(.gl 12 102),(.lst [(.nm 1),(.nm 7)])]) (.tup [(.c (.str "gives")),(.lst [(.nm 5)])])) [(.asg 6 (.c (.int 1)))] [])]),(.ife (.cmp .NotEq (.call 9 66 [(.nm 0),(.gl 10 106),(.lst [(.nm 1),(.nm 5)])]) (.tup [(.c (.str "gives")),(.lst [(.nm 6)])])) [(.ret (.c (.bool false)))] []),(.ret (.bop .Or [(.cmp .Eq (.nm 3) (.c (.int 0))),(.bop .And [(.call 13 72 [(.nm 0),(.nm 1),(.gl 14 103),(.lst [(.bin .Mod (.nm 4) (.nm 3)),(.nm 5)])]),(.call 13 72 [(.nm 0),(.nm 2),(.gl 14 103),(.lst [(.bin .Mod (.nm 4) (.nm 3)),(.nm 5)])]),(.cmp .Eq (.call 9 66 [(.nm 0),(.gl 10 106),(.lst [(.nm 2),(.nm 5)])]) (.tup [(.c (.str "gives")),(.lst [(.c (.int 1))])]))])]))]⟩
noncomputable def f89:Fn:=⟨2,7,0,[(.asg 2 (.bin .Mod (.nm 1) (.c (.int 10)))),(.asg 3 (.bin .FloorDiv (.nm 1) (.c (.int 20)))),(.asg2 4 5 (.wk (.nm 0) .pair)),(.ife (.cmp .Eq (.bin .Mod (.bin .FloorDiv (.nm 1) (.c (.int 10))) (.c (.int 2))) (.c (.int 1))) [(.asg2 5 4 (.wk (.nm 0) .pair))] []),(.asg 6 (.sub (.call 7 71 [(.nm 0),(.nm 4)]) (.c (.int 1)))),(.ife (.cmp .Gt (.nm 6) (.c (.int 8))) [(.ret (.call 8 87 [(.nm 0),(.nm 4),(.nm 6),(.nm 3)]))] []),(.ife (.bop .Or [(.cmp .Eq (.nm 2) (.c (.int 0))),(.cmp .Eq (.nm 6) (.c (.int 8)))]) [(.ret (.call 9 75 [(.nm 0),(.nm 4),(.nm 5),(.nm 6),(.nm 3)]))] []),(.ife (.cmp .Eq (.nm 2) (.c (.int 1))) [(.ret (.call 10 76 [(.nm 0),(.nm 4),(.nm 5),(.nm 6),(.nm 3)]))] []),(.ife (.bop .And [(.cmp .Eq (.nm 2) (.c (.int 2))),(.cmp .Gt (.nm 6) (.c (.int 0)))]) [(.ret (.call 11 77 [(.nm 0),(.nm 4),(.nm 5),(.nm 6),(.nm 3)]))] []),(.ife (.bop .And [(.cmp .Eq (.nm 2) (.c (.int 3))),(.cmp .Lt (.nm 6) (.c (.int 4)))]) [(.ret (.call 12 78 [(.nm 0),(.nm 4),(.nm 5),(.nm 6),(.nm 3)]))] []),(.ife (.bop .And [(.cmp .Lt (.nm 2) (.c (.int 5))),(.cmp .Gt (.nm 6) (.c (.int 1)))]) [(.ret (.call 13 79 [(.nm 0),(.nm 4),(.nm 5),(.nm 6),(.nm 3)]))] []),(.ife (.bop .And [(.cmp .Eq (.nm 2) (.c (.int 5))),(.cmp .Lt (.nm 6) (.c (.int 6)))]) [(.ret (.call 14 80 [(.nm 0),(.nm 4),(.nm 6),(.nm 3)]))] []),(.ife (.cmp .Eq (.nm 2) (.c (.int 6))) [(.ret (.call 15 85 [(.nm 0),(.nm 4),(.nm 5),(.nm 6),(.nm 3)]))] []),(.ife (.cmp .Eq (.nm 2) (.c (.int 8))) [(.ret (.call 8 87 [(.nm 0),(.nm 4),(.nm 6),(.nm 3)]))] []),(.ife (.cmp .Eq (.nm 2) (.c (.int 9))) [(.ret (.call 16 88 [(.nm 0),(.nm 4),(.nm 5),(.nm 6),(.nm 3)]))] []),(.ret (.call 17 86 [(.nm 0),(.nm 4),(.nm 5),(.nm 6)]))]⟩
noncomputable def fns (n:Nat):Option Fn:=(bp (Nat.blt n 45) (bp (Nat.blt n 23) (bp (Nat.blt n 12) (bp (Nat.blt n 6) (bp (Nat.blt n 3) (bp (Nat.blt n 2) (bp (Nat.beq n 1) (some f1) none) (bp (Nat.beq n 2) (some f2) none)) (bp (Nat.blt n 4) (bp (Nat.beq n 3) (some f3) none) (bp (Nat.blt n 5) (bp (Nat.beq n 4) (some f4) none) (bp (Nat.beq n 5) (some f5) none)))) (bp (Nat.blt n 9) (bp (Nat.blt n 7) (bp (Nat.beq n 6) (some f6) none) (bp (Nat.blt n 8) (bp (Nat.beq n 7) (some f7) none) (bp (Nat.beq n 8) (some f8) none))) (bp (Nat.blt n 10) (bp (Nat.beq n 9) (some f9) none) (bp (Nat.blt n 11) (bp (Nat.beq n 10) (some f10) none) (bp (Nat.beq n 11) (some f11) none))))) (bp (Nat.blt n 17) (bp (Nat.blt n 14) (bp (Nat.blt n 13) (bp (Nat.beq n 12) (some f12) none) (bp (Nat.beq n 13) (some f13) none)) (bp (Nat.blt n 15) (bp (Nat.beq n 14) (some f14) none) (bp (Nat.blt n 16) (bp (Nat.beq n 15) (some f15) none) (bp (Nat.beq n 16) (some f16) none)))) (bp (Nat.blt n 20) (bp (Nat.blt n 18) (bp (Nat.beq n 17) (some f17) none) (bp (Nat.blt n 19) (bp (Nat.beq n 18) (some f18) none) (bp (Nat.beq n 19) (some f19) none))) (bp (Nat.blt n 21) (bp (Nat.beq n 20) (some f20) none) (bp (Nat.blt n 22) (bp (Nat.beq n 21) (some f21) none) (bp (Nat.beq n 22) (some f22) none)))))) (bp (Nat.blt n 34) (bp (Nat.blt n 28) (bp (Nat.blt n 25) (bp (Nat.blt n 24) (bp (Nat.beq n 23) (some f23) none) (bp (Nat.beq n 24) (some f24) none)) (bp (Nat.blt n 26) (bp (Nat.beq n 25) (some f25) none) (bp (Nat.blt n 27) (bp (Nat.beq n 26) (some f26) none) (bp (Nat.beq n 27) (some f27) none)))) (bp (Nat.blt n 31) (bp (Nat.blt n 29) (bp (Nat.beq n 28) (some f28) none) (bp (Nat.blt n 30) (bp (Nat.beq n 29) (some f29) none) (bp (Nat.beq n 30) (some f30) none))) (bp (Nat.blt n 32) (bp (Nat.beq n 31) (some f31) none) (bp (Nat.blt n 33) (bp (Nat.beq n 32) (some f32) none) (bp (Nat.beq n 33) (some f33) none))))) (bp (Nat.blt n 39) (bp (Nat.blt n 36) (bp (Nat.blt n 35) (bp (Nat.beq n 34) (some f34) none) (bp (Nat.beq n 35) (some f35) none)) (bp (Nat.blt n 37) (bp (Nat.beq n 36) (some f36) none) (bp (Nat.blt n 38) (bp (Nat.beq n 37) (some f37) none) (bp (Nat.beq n 38) (some f38) none)))) (bp (Nat.blt n 42) (bp (Nat.blt n 40) (bp (Nat.beq n 39) (some f39) none) (bp (Nat.blt n 41) (bp (Nat.beq n 40) (some f40) none) (bp (Nat.beq n 41) (some f41) none))) (bp (Nat.blt n 43) (bp (Nat.beq n 42) (some f42) none) (bp (Nat.blt n 44) (bp (Nat.beq n 43) (some f43) none) (bp (Nat.beq n 44) (some f44) none))))))) (bp (Nat.blt n 67) (bp (Nat.blt n 56) (bp (Nat.blt n 50) (bp (Nat.blt n 47) (bp (Nat.blt n 46) (bp (Nat.beq n 45) (some f45) none) (bp (Nat.beq n 46) (some f46) none)) (bp (Nat.blt n 48) (bp (Nat.beq n 47) (some f47) none) (bp (Nat.blt n 49) (bp (Nat.beq n 48) (some f48) none) (bp (Nat.beq n 49) (some f49) none)))) (bp (Nat.blt n 53) (bp (Nat.blt n 51) (bp (Nat.beq n 50) (some f50) none) (bp (Nat.blt n 52) (bp (Nat.beq n 51) (some f51) none) (bp (Nat.beq n 52) (some f52) none))) (bp (Nat.blt n 54) (bp (Nat.beq n 53) (some f53) none) (bp (Nat.blt n 55) (bp (Nat.beq n 54) (some f54) none) (bp (Nat.beq n 55) (some f55) none))))) (bp (Nat.blt n 61) (bp (Nat.blt n 58) (bp (Nat.blt n 57) (bp (Nat.beq n 56) (some f56) none) (bp (Nat.beq n 57) (some f57) none)) (bp (Nat.blt n 59) (bp (Nat.beq n 58) (some f58) none) (bp (Nat.blt n 60) (bp (Nat.beq n 59) (some f59) none) (bp (Nat.beq n 60) (some f60) none)))) (bp (Nat.blt n 64) (bp (Nat.blt n 62) (bp (Nat.beq n 61) (some f61) none) (bp (Nat.blt n 63) (bp (Nat.beq n 62) (some f62) none) (bp (Nat.beq n 63) (some f63) none))) (bp (Nat.blt n 65) (bp (Nat.beq n 64) (some f64) none) (bp (Nat.blt n 66) (bp (Nat.beq n 65) (some f65) none) (bp (Nat.beq n 66) (some f66) none)))))) (bp (Nat.blt n 78) (bp (Nat.blt n 72) (bp (Nat.blt n 69) (bp (Nat.blt n 68) (bp (Nat.beq n 67) (some f67) none) (bp (Nat.beq n 68) (some f68) none)) (bp (Nat.blt n 70) (bp (Nat.beq n 69) (some f69) none) (bp (Nat.blt n 71) (bp (Nat.beq n 70) (some f70) none) (bp (Nat.beq n 71) (some f71) none)))) (bp (Nat.blt n 75) (bp (Nat.blt n 73) (bp (Nat.beq n 72) (some f72) none) (bp (Nat.blt n 74) (bp (Nat.beq n 73) (some f73) none) (bp (Nat.beq n 74) (some f74) none))) (bp (Nat.blt n 76) (bp (Nat.beq n 75) (some f75) none) (bp (Nat.blt n 77) (bp (Nat.beq n 76) (some f76) none) (bp (Nat.beq n 77) (some f77) none))))) (bp (Nat.blt n 84) (bp (Nat.blt n 81) (bp (Nat.blt n 79) (bp (Nat.beq n 78) (some f78) none) (bp (Nat.blt n 80) (bp (Nat.beq n 79) (some f79) none) (bp (Nat.beq n 80) (some f80) none))) (bp (Nat.blt n 82) (bp (Nat.beq n 81) (some f81) none) (bp (Nat.blt n 83) (bp (Nat.beq n 82) (some f82) none) (bp (Nat.beq n 83) (some f83) none)))) (bp (Nat.blt n 87) (bp (Nat.blt n 85) (bp (Nat.beq n 84) (some f84) none) (bp (Nat.blt n 86) (bp (Nat.beq n 85) (some f85) none) (bp (Nat.beq n 86) (some f86) none))) (bp (Nat.blt n 88) (bp (Nat.beq n 87) (some f87) none) (bp (Nat.blt n 89) (bp (Nat.beq n 88) (some f88) none) (bp (Nat.beq n 89) (some f89) none))))))))
noncomputable def Zfu (n:Nat):Option V:=(bp (Nat.blt n 89) (bp (Nat.blt n 42) (bp (Nat.blt n 24) (bp (Nat.blt n 16) (bp (Nat.blt n 12) (bp (Nat.blt n 10) (bp (Nat.blt n 9) (bp (Nat.beq n 8) (some (.dat (.int 32))) none) (bp (Nat.beq n 9) (some (.dat (.int 40))) none)) (bp (Nat.blt n 11) (bp (Nat.beq n 10) (some (.dat (.int 42))) none) (bp (Nat.beq n 11) (some (.dat (.int 56))) none))) (bp (Nat.blt n 14) (bp (Nat.blt n 13) (bp (Nat.beq n 12) (some (.dat (.int 57))) none) (bp (Nat.beq n 13) (some (.dat (.int 58))) none)) (bp (Nat.blt n 15) (bp (Nat.beq n 14) (some (.dat (.int 59))) none) (bp (Nat.beq n 15) (some (.dat (.int 62))) none)))) (bp (Nat.blt n 20) (bp (Nat.blt n 18) (bp (Nat.blt n 17) (bp (Nat.beq n 16) (some (.dat (.int 63))) none) (bp (Nat.beq n 17) (some (.dat (.int 67))) none)) (bp (Nat.blt n 19) (bp (Nat.beq n 18) (some (.dat (.int 68))) none) (bp (Nat.beq n 19) (some (.dat (.int 88))) none))) (bp (Nat.blt n 22) (bp (Nat.blt n 21) (bp (Nat.beq n 20) (some (.dat (.int 89))) none) (bp (Nat.beq n 21) (some (.dat (.int 90))) none)) (bp (Nat.blt n 23) (bp (Nat.beq n 22) (some (.dat (.int 105))) none) (bp (Nat.beq n 23) (some (.dat (.int 111))) none))))) (bp (Nat.blt n 32) (bp (Nat.blt n 28) (bp (Nat.blt n 26) (bp (Nat.blt n 25) (bp (Nat.beq n 24) (some (.dat (.int 114))) none) (bp (Nat.beq n 25) (some (.dat (.int 115))) none)) (bp (Nat.blt n 27) (bp (Nat.beq n 26) (some (.dat (.int 122))) none) (bp (Nat.beq n 27) (some (.dat (.int 123))) none))) (bp (Nat.blt n 30) (bp (Nat.blt n 29) (bp (Nat.beq n 28) (some (.dat (.int 125))) none) (bp (Nat.beq n 29) (some (.dat (.int 140))) none)) (bp (Nat.blt n 31) (bp (Nat.beq n 30) (some (.dat (.int 141))) none) (bp (Nat.beq n 31) (some (.dat (.int 142))) none)))) (bp (Nat.blt n 36) (bp (Nat.blt n 34) (bp (Nat.blt n 33) (bp (Nat.beq n 32) (some (.dat (.int 163))) none) (bp (Nat.beq n 33) (some (.dat (.int 164))) none)) (bp (Nat.blt n 35) (bp (Nat.beq n 34) (some (.dat (.int 65033))) none) (bp (Nat.beq n 35) (some (.dat (.int 65036))) none))) (bp (Nat.blt n 38) (bp (Nat.blt n 37) (bp (Nat.beq n 36) (some (.dat (.int 65038))) none) (bp (Nat.beq n 37) (some (.dat (.int 1))) none)) (bp (Nat.blt n 39) (bp (Nat.beq n 38) (some (.dat (.int 3))) none) (bp (Nat.beq n 39) (some (.dat (.int 6))) none)))))) (bp (Nat.blt n 58) (bp (Nat.blt n 50) (bp (Nat.blt n 46) (bp (Nat.blt n 44) (bp (Nat.blt n 43) (bp (Nat.beq n 42) (some (.dat (.int 0))) none) (bp (Nat.beq n 43) (some (.dat (.int 1))) none)) (bp (Nat.blt n 45) (bp (Nat.beq n 44) (some (.dat (.int 2))) none) (bp (Nat.beq n 45) (some (.dat (.int 3))) none))) (bp (Nat.blt n 48) (bp (Nat.blt n 47) (bp (Nat.beq n 46) (some (.dat (.int 4))) none) (bp (Nat.beq n 47) (some (.dat (.int 5))) none)) (bp (Nat.blt n 49) (bp (Nat.beq n 48) (some (.dat (.int 6))) none) (bp (Nat.beq n 49) (some (.dat (.int 7))) none)))) (bp (Nat.blt n 54) (bp (Nat.blt n 52) (bp (Nat.blt n 51) (bp (Nat.beq n 50) (some (.dat (.int 8))) none) (bp (Nat.beq n 51) (some (.dat (.int 9))) none)) (bp (Nat.blt n 53) (bp (Nat.beq n 52) (some (.dat (.int 10))) none) (bp (Nat.beq n 53) (some (.dat (.int 11))) none))) (bp (Nat.blt n 56) (bp (Nat.blt n 55) (bp (Nat.beq n 54) (some (.dat (.int 12))) none) (bp (Nat.beq n 55) (some (.dat (.int 13))) none)) (bp (Nat.blt n 57) (bp (Nat.beq n 56) (some (.dat (.int 14))) none) (bp (Nat.beq n 57) (some (.dat (.int 16))) none))))) (bp (Nat.blt n 66) (bp (Nat.blt n 62) (bp (Nat.blt n 60) (bp (Nat.blt n 59) (bp (Nat.beq n 58) (some (.dat (.int 1))) none) (bp (Nat.beq n 59) (some (.dat (.int 2))) none)) (bp (Nat.blt n 61) (bp (Nat.beq n 60) (some (.dat (.int 3))) none) (bp (Nat.beq n 61) (some (.dat (.int 4))) none))) (bp (Nat.blt n 64) (bp (Nat.blt n 63) (bp (Nat.beq n 62) (some (.dat (.int 5))) none) (bp (Nat.beq n 63) (some (.dat (.int 6))) none)) (bp (Nat.blt n 65) (bp (Nat.beq n 64) (some (.dat (.int 7))) none) (bp (Nat.beq n 65) (some (.dat (.int 8))) none)))) (bp (Nat.blt n 70) (bp (Nat.blt n 68) (bp (Nat.blt n 67) (bp (Nat.beq n 66) (some (.dat (.int 9))) none) (bp (Nat.beq n 67) (some (.dat (.int 10))) none)) (bp (Nat.blt n 69) (bp (Nat.beq n 68) (some (.dat (.int 11))) none) (bp (Nat.beq n 69) (some (.dat (.int 24))) none))) (bp (Nat.blt n 87) (bp (Nat.blt n 71) (bp (Nat.beq n 70) (some (.dat (.int 4096))) none) (bp (Nat.beq n 71) (some (.loc (.id 0))) none)) (bp (Nat.blt n 88) (bp (Nat.beq n 87) (some (.dat (.int 8))) none) (bp (Nat.beq n 88) (some (.dat (.int 9))) none))))))) (bp (Nat.blt n 121) (bp (Nat.blt n 105) (bp (Nat.blt n 97) (bp (Nat.blt n 93) (bp (Nat.blt n 91) (bp (Nat.blt n 90) (bp (Nat.beq n 89) (some (.dat (.int 10))) none) (bp (Nat.beq n 90) (some (.dat (.int 20))) none)) (bp (Nat.blt n 92) (bp (Nat.beq n 91) (some (.dat (.int 21))) none) (bp (Nat.beq n 92) (some (.dat (.int 22))) none))) (bp (Nat.blt n 95) (bp (Nat.blt n 94) (bp (Nat.beq n 93) (some (.dat (.int 23))) none) (bp (Nat.beq n 94) (some (.dat (.int 63))) none)) (bp (Nat.blt n 96) (bp (Nat.beq n 95) (some (.dat (.int 1))) none) (bp (Nat.beq n 96) (some (.dat (.int 3))) none)))) (bp (Nat.blt n 101) (bp (Nat.blt n 99) (bp (Nat.blt n 98) (bp (Nat.beq n 97) (some (.dat (.int 21))) none) (bp (Nat.beq n 98) (some (.dat (.int 30))) none)) (bp (Nat.blt n 100) (bp (Nat.beq n 99) (some (.dat (.int 124))) none) (bp (Nat.beq n 100) (some (.dat (.int 125))) none))) (bp (Nat.blt n 103) (bp (Nat.blt n 102) (bp (Nat.beq n 101) (some (.dat (.int 126))) none) (bp (Nat.beq n 102) (some (.dat (.int 127))) none)) (bp (Nat.blt n 104) (bp (Nat.beq n 103) (some (.dat (.int 128))) none) (bp (Nat.beq n 104) (some (.dat (.int 129))) none))))) (bp (Nat.blt n 113) (bp (Nat.blt n 109) (bp (Nat.blt n 107) (bp (Nat.blt n 106) (bp (Nat.beq n 105) (some (.dat (.int 130))) none) (bp (Nat.beq n 106) (some (.dat (.int 131))) none)) (bp (Nat.blt n 108) (bp (Nat.beq n 107) (some (.dat (.int 132))) none) (bp (Nat.beq n 108) (some (.dat (.int 133))) none))) (bp (Nat.blt n 111) (bp (Nat.blt n 110) (bp (Nat.beq n 109) (some (.dat (.int 134))) none) (bp (Nat.beq n 110) (some (.dat (.int 135))) none)) (bp (Nat.blt n 112) (bp (Nat.beq n 111) (some (.dat (.int 136))) none) (bp (Nat.beq n 112) (some (.dat (.int 137))) none)))) (bp (Nat.blt n 117) (bp (Nat.blt n 115) (bp (Nat.blt n 114) (bp (Nat.beq n 113) (some (.dat (.int 255))) none) (bp (Nat.beq n 114) (some (.dat (.int 1))) none)) (bp (Nat.blt n 116) (bp (Nat.beq n 115) (some (.dat (.int 2))) none) (bp (Nat.beq n 116) (some (.dat (.int 5))) none))) (bp (Nat.blt n 119) (bp (Nat.blt n 118) (bp (Nat.beq n 117) (some (.dat (.int 0))) none) (bp (Nat.beq n 118) (some (.dat (.int 2))) none)) (bp (Nat.blt n 120) (bp (Nat.beq n 119) (some (.dat (.int 4))) none) (bp (Nat.beq n 120) (some (.dat (.int 16))) none)))))) (bp (Nat.blt n 155) (bp (Nat.blt n 129) (bp (Nat.blt n 125) (bp (Nat.blt n 123) (bp (Nat.blt n 122) (bp (Nat.beq n 121) (some (.dat (.int 32))) none) (bp (Nat.beq n 122) (some (.dat (.int 64))) none)) (bp (Nat.blt n 124) (bp (Nat.beq n 123) (some (.dat (.int 128))) none) (bp (Nat.beq n 124) (some (.dat (.int 1))) none))) (bp (Nat.blt n 127) (bp (Nat.blt n 126) (bp (Nat.beq n 125) (some (.dat (.int 7))) none) (bp (Nat.beq n 126) (some (.dat (.int 21))) none)) (bp (Nat.blt n 128) (bp (Nat.beq n 127) (some (.dat (.int 29))) none) (bp (Nat.beq n 128) (some (.dat (.int 32))) none)))) (bp (Nat.blt n 151) (bp (Nat.blt n 131) (bp (Nat.blt n 130) (bp (Nat.beq n 129) (some (.dat (.int 35))) none) (bp (Nat.beq n 130) (some (.dat (.int 36))) none)) (bp (Nat.blt n 132) (bp (Nat.beq n 131) (some (.dat (.int 37))) none) (bp (Nat.beq n 132) (some (.dat (.int 55))) none))) (bp (Nat.blt n 153) (bp (Nat.blt n 152) (bp (Nat.beq n 151) (some (.dat (.int 0))) none) (bp (Nat.beq n 152) (some (.dat (.int 1))) none)) (bp (Nat.blt n 154) (bp (Nat.beq n 153) (some (.dat (.int 2))) none) (bp (Nat.beq n 154) (some (.dat (.int 3))) none))))) (bp (Nat.blt n 163) (bp (Nat.blt n 159) (bp (Nat.blt n 157) (bp (Nat.blt n 156) (bp (Nat.beq n 155) (some (.dat (.int 4))) none) (bp (Nat.beq n 156) (some (.dat (.int 5))) none)) (bp (Nat.blt n 158) (bp (Nat.beq n 157) (some (.dat (.int 6))) none) (bp (Nat.beq n 158) (some (.dat (.int 7))) none))) (bp (Nat.blt n 161) (bp (Nat.blt n 160) (bp (Nat.beq n 159) (some (.dat (.int 8))) none) (bp (Nat.beq n 160) (some (.dat (.int 9))) none)) (bp (Nat.blt n 162) (bp (Nat.beq n 161) (some (.dat (.int 10))) none) (bp (Nat.beq n 162) (some (.dat (.int 11))) none)))) (bp (Nat.blt n 174) (bp (Nat.blt n 172) (bp (Nat.blt n 165) (bp (Nat.beq n 163) (some (.loc (.id 1))) none) (bp (Nat.beq n 165) (some (.dat (.int (-1)))) none)) (bp (Nat.blt n 173) (bp (Nat.beq n 172) (some (.dat (.int 206))) none) (bp (Nat.beq n 173) (some (.dat (.int 4))) none))) (bp (Nat.blt n 176) (bp (Nat.blt n 175) (bp (Nat.beq n 174) (some (.dat (.int 22))) none) (bp (Nat.beq n 175) (some (.dat (.str "Index was out of range. Must be non-negative and less than the size of the collection."))) none)) (bp (Nat.blt n 177) (bp (Nat.beq n 176) (some (.dat (.str "Index must be within the bounds of the List."))) none) (bp (Nat.beq n 177) (some (.dat (.str "Collection was modified; enumeration operation may not execute."))) none))))))))
noncomputable def P9:List (D×V):=[(.int 20,.dat (.int 0)),(.int 9,.dat (.int 1)),(.int 10,.dat (.int 2)),(.int 11,.dat (.int 3)),(.int 12,.dat (.int 4)),(.int 13,.dat (.int 5)),(.int 14,.dat (.int 6)),(.int 15,.dat (.int 7)),(.int 16,.dat (.int 8)),(.int 17,.dat (.int 9)),(.int 18,.dat (.int 10)),(.int 19,.dat (.int 11)),(.int 1,.dat (.int 12)),(.int 4,.dat (.int 13))]
noncomputable def Jv:List (D×V):=[(.int 0,.dat (.int 0)),(.int 20,.dat (.int 0)),(.int 32,.dat (.int 1)),(.int 33,.dat (.int 2)),(.int 37,.dat (.int 0)),(.int 38,.dat (.int 0)),(.int 40,.dat (.int 9)),(.int 42,.dat (.int 0)),(.int 56,.dat (.int 5)),(.int 57,.dat (.int 5)),(.int 58,.dat (.int 5)),(.int 59,.dat (.int 5)),(.int 60,.dat (.int 5)),(.int 61,.dat (.int 5)),(.int 62,.dat (.int 5)),(.int 63,.dat (.int 5)),(.int 64,.dat (.int 5)),(.int 65,.dat (.int 5)),(.int 66,.dat (.int 5)),(.int 67,.dat (.int 5)),(.int 68,.dat (.int 5)),(.int 69,.dat (.int 6)),(.int 70,.dat (.int 0)),(.int 71,.dat (.int 0)),(.int 72,.dat (.int 0)),(.int 73,.dat (.int 0)),(.int 74,.dat (.int 0)),(.int 75,.dat (.int 0)),(.int 76,.dat (.int 0)),(.int 77,.dat (.int 0)),(.int 80,.dat (.int 0)),(.int 81,.dat (.int 0)),(.int 82,.dat (.int 0)),(.int 83,.dat (.int 0)),(.int 84,.dat (.int 0)),(.int 85,.dat (.int 0)),(.int 88,.dat (.int 0)),(.int 89,.dat (.int 0)),(.int 90,.dat (.int 0)),(.int 91,.dat (.int 0)),(.int 92,.dat (.int 0)),(.int 93,.dat (.int 0)),(.int 94,.dat (.int 0)),(.int 95,.dat (.int 0)),(.int 96,.dat (.int 0)),(.int 97,.dat (.int 0)),(.int 98,.dat (.int 0)),(.int 99,.dat (.int 0)),(.int 100,.dat (.int 0)),(.int 101,.dat (.int 0)),(.int 102,.dat (.int 0)),(.int 103,.dat (.int 0)),(.int 104,.dat (.int 0)),(.int 105,.dat (.int 0)),(.int 106,.dat (.int 0)),(.int 109,.dat (.int 0)),(.int 110,.dat (.int 0)),(.int 111,.dat (.int 9)),(.int 113,.dat (.int 7)),(.int 114,.dat (.int 10)),(.int 115,.dat (.int 9)),(.int 116,.dat (.int 7)),(.int 117,.dat (.int 7)),(.int 121,.dat (.int 7)),(.int 122,.dat (.int 0)),(.int 123,.dat (.int 8)),(.int 124,.dat (.int 8)),(.int 125,.dat (.int 8)),(.int 126,.dat (.int 8)),(.int 127,.dat (.int 8)),(.int 128,.dat (.int 8)),(.int 129,.dat (.int 7)),(.int 130,.dat (.int 0)),(.int 131,.dat (.int 0)),(.int 132,.dat (.int 0)),(.int 133,.dat (.int 0)),(.int 134,.dat (.int 0)),(.int 135,.dat (.int 0)),(.int 136,.dat (.int 0)),(.int 137,.dat (.int 0)),(.int 140,.dat (.int 7)),(.int 141,.dat (.int 7)),(.int 142,.dat (.int 0)),(.int 143,.dat (.int 7)),(.int 163,.dat (.int 7)),(.int 164,.dat (.int 7)),(.int 165,.dat (.int 7)),(.int 179,.dat (.int 0)),(.int 180,.dat (.int 0)),(.int 181,.dat (.int 0)),(.int 182,.dat (.int 0)),(.int 183,.dat (.int 0)),(.int 184,.dat (.int 0)),(.int 185,.dat (.int 0)),(.int 186,.dat (.int 0)),(.int 208,.dat (.int 11)),(.int 209,.dat (.int 0)),(.int 210,.dat (.int 0)),(.int 211,.dat (.int 0)),(.int 214,.dat (.int 0)),(.int 215,.dat (.int 0)),(.int 216,.dat (.int 0)),(.int 217,.dat (.int 0)),(.int 218,.dat (.int 0)),(.int 219,.dat (.int 0)),(.int 220,.dat (.int 0)),(.int 221,.dat (.int 5)),(.int 223,.dat (.int 0)),(.int 65025,.dat (.int 0)),(.int 65026,.dat (.int 0)),(.int 65027,.dat (.int 0)),(.int 65028,.dat (.int 0)),(.int 65029,.dat (.int 0)),(.int 65030,.dat (.int 9)),(.int 65031,.dat (.int 9)),(.int 65033,.dat (.int 3)),(.int 65034,.dat (.int 3)),(.int 65035,.dat (.int 3)),(.int 65036,.dat (.int 4)),(.int 65037,.dat (.int 4)),(.int 65038,.dat (.int 4)),(.int 65041,.dat (.int 0)),(.int 65045,.dat (.int 7)),(.int 65046,.dat (.int 7)),(.int 65050,.dat (.int 0)),(.int 65054,.dat (.int 0))]
noncomputable def Z9:List Str:=(["rows","index","depths","weights","opens","tid","name","sort","flags","base","ifaces","params","variances","bounds","fields","methods","asm","cctor","under","impls","props","events","finaliser","home","fid","owner","kind","access","value","mid","ngen","gnames","gbounds","ret","pnames","pflags","body","native","locals_","maxstack","code","clauses","kt","types","fields_","names","asms","entry","put","row"]:List String).map Str.ofString
noncomputable def Lf:List (List Nat):=[[0,1,2,3,4],[5,6,7,8,9,10,11,12,13,14,15,16,17,18,19,20,21,22,23],[24,25,6,26,27,8,28],[29,25,6,27,8,30,31,32,33,11,34,35,36,37],[38,39,40,41],[42,43,44,15,45,46,47]]
noncomputable def Wm (n:Nat):List Nat:=(Lf[n]?).getD []
noncomputable def Cm:List Nat:=[1,18,19,20,21,22]
noncomputable def Pb (n:Nat):Nat:=(Cm[n]?).getD 1000
noncomputable def Dk (c a:Nat):Option Nat:=gd (Nat.beq c 0) (bp (Nat.beq a 48) (some 3) (gd (Nat.beq a 49) (some 2)))
noncomputable def Qh (n:Nat):Option O:=bp (Nat.beq n 0) (some (.dict P9)) (gd (Nat.beq n 1) (some (.dict Jv)))
noncomputable def F4:List IS:=[(.asg 1 (.mk 9 5 [])),(.setA (.nm 1) 43 (.bin .Mult (.lst [(.c .none)]) (.c (.int 64)))),(.setS (.attr (.nm 1) 43) (.gl 10 131) (.mk 11 1 [(.gl 10 131),(.c (.str "List")),(.gl 12 114),(.c (.int 0)),(.gl 13 54),(.tup [(.c (.str "T"))]),(.c (.int 0))])),(.setS (.attr (.nm 1) 43) (.gl 14 132) (.mk 11 1 [(.gl 14 132),(.c (.str "ListEnum")),(.gl 12 114),(.c (.int 0)),(.gl 13 54),(.tup [(.c (.str "T"))]),(.c (.int 0))])),(.setA (.nm 1) 44 (.bin .Mult (.lst [(.c .none)]) (.bin .Add (.gl 15 94) (.c (.int 1))))),(.setA (.nm 1) 15 (.bin .Mult (.lst [(.c .none)]) (.bin .Add (.gl 16 113) (.c (.int 1))))),(.ex (.call 17 65 [(.nm 1)]))]
noncomputable def T8:List Str:=(["__doc__","__package__","__loader__","__spec__","__annotations__","__builtins__","__file__","__cached__","OP_LDC_I4","OP_CALL","OP_RET","OP_BR","OP_BRFALSE","OP_BRTRUE","OP_BEQ","OP_BLE","OP_BLT","OP_BLE_UN","OP_BLT_UN","OP_ADD","OP_SUB","OP_MUL","OP_CONV_I4","OP_CALLVIRT","OP_LDSTR","OP_NEWOBJ","OP_THROW","OP_LDFLD","OP_STFLD","OP_BOX","OP_NEWARR","OP_LDLEN","OP_LDELEM","OP_STELEM","OP_LDARG","OP_LDLOC","OP_STLOC","A_PRIVATE","A_ASSEMBLY","A_PUBLIC","RuneError","BadKind","VOID","BOOL","CHAR","I1","U1","I2","U2","I4","U4","I8","U8","NINT","OBJECT","STRING","NULLK","PRIM_END","R_PRIM","R_CLASS","R_VALUE","R_ARRAY","R_BYREF","R_VAR","R_MVAR","R_BOXED","R_ROREF","R_FTN","R_RAW","DEEPEST_KIND","HEAVIEST_KIND","TID_PRIM","KindTable","inner_kinds","row_level","row_length","check_kind_row","check_named","check_args","may_stand","class_kind","value_kind","prim_kind","array_kind","var_kind","is_value","is_var","CF_ITEMS","CF_COUNT","CF_VERSION","CF_LE_LIST","CF_LE_AT","CF_LE_CUR","CF_LE_VER","CF_END","CM_OBJ_CTOR","CM_OBJ_EQUALS","CM_EX_CTOR0","CM_EXCEPTIONS","CM_LIST_CTOR","CM_ADD","CM_LIST_COUNT","CM_GETITEM","CM_SETITEM","CM_REMOVEAT","CM_CLEAR","CM_CONTAINS","CM_LIST_ENUM","CM_INSERT","CM_LE_CTOR","CM_LE_MOVE","CM_LE_CURRENT","CM_LE_DISPOSE","CM_END","S_CLASS","S_STRUCT","S_ENUM","VA_NONE","MF_VIRTUAL","MF_NEWSLOT","MF_FINAL","MF_CTOR","MF_CCTOR","MF_SPECIAL","T_OBJECT","T_EXCEPTION","T_NULLREF","T_INVALIDOP","T_ARGRANGE","T_IENUM","T_IENUMERATOR","T_LIST","T_LISTENUM","TypeDef","FieldDef","MethodDef","Body","Store","plain_names","add_iface","put_field_at","kept_flags","put_method_at","note_method","set_body","put_once","add_prop","exception_ctor","self_kind","kind_with","is_virtual","SO_NONE","SO_I4","SO_I8","SO_ARG","SO_LOCAL","SO_BRANCH","SO_SWITCH","SO_KIND","SO_FIELD","SO_METHOD","SO_TEXT","SO_TOKEN","OP_SORT","is_branch","MARK","settle","put_prop","plain_class","call_of","ctor_of","throw_rows","CM_LIST_GROW","FIRST_SIZE","SEALED_VIRTUAL","TEXT_INDEX","TEXT_INSERT","TEXT_CHANGED","load_items","load_count","add_to","step_local","check_index","put_member","grow_rows","add_rows","set_rows","remove_rows","insert_rows","clear_rows","contains_rows","install_list_fields","install_list_reading","install_list_writing","put_walker","walker_field","walker_list","walker_start","move_rows","install_walker","install_core_list","_law_run","_law_rare","_law_sides","_law_new","_law_bare_new","_law_held","_law_deed","_law_alike","_law_drawn","_law_ends","_law_undone","_law_replaced","_law_both_in","_law_both_out","_law_again","_law_any","_law_walker","_law_moves","_law_stale","_law_walkers","_law_walk","_law_refused","_law_found","_law_step","law"]:List String).map Str.ofString
noncomputable def Ox:List Str:=(["__init__","__init__","row","put","inner_kinds","row_level","row_length","check_kind_row","check_named","check_args","may_stand","class_kind","value_kind","prim_kind","array_kind","var_kind","is_value","is_var","__init__","__init__","__init__","__init__","__init__","plain_names","add_iface","put_field_at","kept_flags","put_method_at","note_method","set_body","put_once","add_prop","exception_ctor","self_kind","kind_with","is_virtual","is_branch","settle","put_prop","plain_class","call_of","ctor_of","throw_rows","load_items","load_count","add_to","step_local","check_index","put_member","grow_rows","add_rows","set_rows","remove_rows","insert_rows","clear_rows","contains_rows","install_list_fields","install_list_reading","install_list_writing","put_walker","walker_field","walker_list","walker_start","move_rows","install_walker","install_core_list","_law_run","_law_rare","_law_sides","_law_new","_law_bare_new","_law_held","_law_deed","_law_alike","_law_drawn","_law_ends","_law_undone","_law_replaced","_law_both_in","_law_both_out","_law_again","_law_any","_law_walker","_law_moves","_law_stale","_law_walkers","_law_walk","_law_refused","_law_found","_law_step","law"]:List String).map Str.ofString
noncomputable def Yhp:List Bool:=[false,false,false,false,true,true,true,true,true,true,true,true,true,true,true,true,true,true,false,false,false,false,false,true,true,true,true,true,true,true,true,true,true,true,true,true,true,true,true,true,true,true,true,true,true,true,true,true,true,true,true,true,true,true,true,true,true,true,true,true,true,true,true,true,true,true,true,true,true,true,true,true,true,true,true,true,true,true,true,true,true,true,true,true,true,true,true,true,true,true,true]
noncomputable def Yho (n:Nat):Bool:=(Yhp[n]?).getD false
noncomputable def Rv:List Str:=(["KindTable","TypeDef","FieldDef","MethodDef","Body","Store"]:List String).map Str.ofString
end Mine
namespace Mine
open PySem PySem.W PySem.Calls PyProof.Rows
set_option genInjectivity false
structure Yd(C:Cx)(t:Tn)(env:Env):Prop where
 kind:env.scope.kind= .function
 glo:env.globals=mainGlobals
 blt:env.builtins=builtinsNs
 ns:∀(j:Nat) (x:Str) (k:NameKind),t.ns[j]? =some (x,k)→env.kindOf x=some k∧(x == ("__debug__":Str))=false
 nd:∀(i j:Nat) (x:Str) (k k':NameKind),t.ns[i]? =some (x,k)→t.ns[j]? =some (x,k')→i=j
 gn:t.gn=C.gn
 fn:t.fn=C.fn
 cn:t.cn=C.cn
 an:t.an=C.nm
 isG:t.isG=C.isG
structure Zdi(C:Cx)(c:Nat):Prop where
 cd:∃cd,clsIn C.K (C.cl c)=some cd∧cd.hasDict=true
 ga:findIn C.K (.ref (C.cl c)) "__getattribute__"=some (some (.builtin "object.__getattribute__"))
 sa:findIn C.K (.ref (C.cl c)) "__setattr__"=some (some (.builtin "object.__setattr__"))
 no:∀a∈C.T.attrs c,findIn C.K (.ref (C.cl c)) (C.nm a)=some none
 inj:∀a∈C.T.attrs c,∀b∈C.T.attrs c,C.nm a=C.nm b→a=b
 few:(C.T.attrs c).length≤100
 over:plainOver C.K (C.cl c)=true
 makes:makesIn C.K (C.cl c)=true
 keep:keepIn C.K (.ref (C.cl c))=true
 init:findIn C.K (.ref (C.cl c)) "__init__"=some (some (.ref (C.fa (C.T.init c))))
 initF:typeIn C.K (.ref (C.fa (C.T.init c)))=some (.type "function")
 own:(clsIn C.K (C.cl c)).any (·.hasDict)=true
structure G8(C:Cx)(c a f:Nat):Prop where
 ga:findIn C.K (.ref (C.cl c)) "__getattribute__"=some (some (.builtin "object.__getattribute__"))
 no:findIn C.K (.ref (C.cl c)) "__getattr__"=some none
 fn:findIn C.K (.ref (C.cl c)) (C.nm a)=some (some (.ref (C.fa f)))
 ty:typeIn C.K (.ref (C.fa f))=some (.type "function")
 ob:∃o fd,C.K.lookup (C.fa f)=some o∧o.data= .func fd
 nat:∀b∈C.T.attrs c,C.nm b≠C.nm a
def E7:BI→Value
 |.len=> .builtin "len"
 |.range=> .type "range"
 |.tuple=> .type "tuple"
 |.str=> .type "str"
 |.isTup=> .builtin "isinstance"
structure Vr(C:Cx)(mg mb:Str→Option Value):Prop where
 v0:C.val 0=0
 fx:∀f∈C.T.fx,f.Holds C.ν
 slack:C.slack≤100000
 nsG:∀h,C.K.In h→h.Ns mainGlobals mg
 nsB:∀h,C.K.In h→h.Ns builtinsNs mb
 lim:∀h,C.K.In h→h.NoLimit
 cls:∀c,c < 6→Zdi C c
 fg:∀f,C.isG f=true→mg (C.fn f)=some (.ref (C.fa f))∧∃o fd,C.K.lookup (C.fa f)=some o∧o.data= .func fd
 bl:∀b,mg (Y9 b)=none∧mb (Y9 b)=some (E7 b)
 att:∀c,C.T.attrs c≠[]→c < 6
 cg:∀c,c < 6→mg (C.cn c)=some (.ref (C.cl c))
 meth:∀c a f,C.T.meth c a=some f→G8 C c a f
 gv:∀g v,C.T.gval g=some v→∃x,mg (C.gn g)=some x∧match v with
  |.dat (.int i)=>Yo i=true∧∃t,x= .int i t
  |.dat (.str y)=>∃t,x= .str y t
  |.loc (.id n)=>∃a,C.sta n=some a∧x= .ref a
  |_=>False
def Room(A:Around)(d:Nat):Prop:=A.handled=none∧A.depth + 3 * d + 10 < 1000∧A.units + 20 * d + 300 < 9900
def RoomC(A:Around)(d:Nat):Prop:=A.handled=none∧A.depth + 3 * d + 8 < 1000∧A.units + 20 * d + 290 < 9900
theorem Room.c{A:Around}{d:Nat}(r:Room A d):RoomC A d:=⟨r.1,Nat.lt_of_succ_lt (Nat.lt_of_succ_lt r.2.1),Nat.lt_of_le_of_lt (Nat.add_le_add_left (by decide) _) r.2.2⟩
structure FrS(C:Cx)(σ:St)(ρ:Rho)(h:Heap)(env:Env)(t:Tn)(lo:Zd):Prop where
 at_:∃m,h.Ns env.locals m∧∀(j:Nat) (v:V),lo[j]? =some (some v)→∃n k x,t.ns[j]? =some (n,k)∧m n=some x∧VR C σ ρ h v x
 own:¬Own C σ ρ env.locals
 liv:∀l,Z2 C σ l→ρ l≠env.locals
 far:C.K.lookup env.locals=none
 old:σ.base≤σ.next
theorem Ns.stays{h h':Heap}{P P':Addr→Prop}{L:Addr}{m:Str→Option Value}(x:h.Ns L m)(k:Stays h P h' P')(n:¬P L):h'.Ns L m∧¬P' L:=by
 obtain⟨o,es,ep,ho,r⟩:=x;exact⟨⟨o,es,ep,k.get _ _ n ho,r⟩,k.own _ _ n ho⟩
theorem Vj{old:Nat→Option O}{σ σ':St}{n:Nat}(hb:σ'.base=σ.base)(h:n < σ.base):Zj old σ' n=Zj old σ n:=by
 rw[Y0 h,Y0 (hb ▸ h)]
theorem Vm{C:Cx}{σ σ':St}{ρ ρ':Rho}{L:Addr}(hb:σ'.base=σ.base)(ho:σ.base≤σ.next)(hr:∀l,Dom σ l→ρ' l=ρ l)(hl:∀l,Z2 C σ l→ρ l≠L)(hn:¬Own C σ' ρ' L):∀l,Z2 C σ' l→ρ' l≠L:=by
 intro l d e;by_cases y:X6 σ' l
 ·exact hn ⟨l,d,y,e⟩
 ·cases l with
  |id n=>
   have hlt:n < σ.base:=hb ▸ Nat.not_le.mp y;exact d.elim fun o d=>hl (.id n) ⟨o,(Vj hb hlt).symm.trans d.1,d.2⟩ ((hr (.id n) (Nat.lt_of_lt_of_le hlt ho)).symm.trans e)
  |idd n=>
   have hlt:n < σ.base:=hb ▸ Nat.not_le.mp y;exact d.elim fun c d=>d.elim fun vs d=>hl (.idd n) ⟨c,vs,(Vj hb hlt).symm.trans d⟩ ((hr (.idd n) (Nat.lt_of_lt_of_le hlt ho)).symm.trans e)
  |_=>exact y trivial
theorem Je{σ σ':St}(hb:σ'.base=σ.base)(ho:σ.base≤σ.next)(hd:∀l,Dom σ l→Dom σ' l):σ'.base≤σ'.next:=by
 rw[hb];cases z:σ.base with
 |zero=>exact Nat.zero_le _
 |succ n=>exact hd (.id n) (Nat.le_trans (Nat.le_of_eq z.symm) ho)
theorem FrS.ext{C:Cx}{σ σ':St}{ρ ρ':Rho}{s s':Shared}{env:Env}{t:Tn}{lo:Zd}(F:FrS C σ ρ s.heap env t lo)(k:Ext C σ ρ s σ' ρ' s'):FrS C σ' ρ' s'.heap env t lo:=
 F.at_.elim fun m e=>have n:=Ns.stays e.1 k.stays F.own
 ⟨⟨m,n.1,fun j v e'=>(e.2 j v e').elim fun n e=>e.elim fun kk e=>e.elim fun x e=>⟨n,kk,x,e.1,e.2.1,e.2.2.ext k⟩⟩,n.2,Vm k.base F.old k.rho F.liv n.2,F.far,Je k.base F.old k.dom⟩
section
variable{C:Cx}{σ:St}{ρ:Rho}{h:Heap}{x:Value}{M:Value→Prop}
@[elab_as_elim] theorem VR.int_e {i:Int} (e:VR C σ ρ h (.dat (.int i)) x) (k:∀t,M (.int (C.ν i) t)):M x:=RdD.int_e (h:=h) (P:=Own C σ ρ) e k
@[elab_as_elim] theorem VR.str_e {i:Str} (e:VR C σ ρ h (.dat (.str i)) x) (k:∀t,M (.str i t)):M x:=RdD.str_e (h:=h) (P:=Own C σ ρ) e k
@[elab_as_elim] theorem VR.bool_e {i:Bool} (e:VR C σ ρ h (.dat (.bool i)) x) (k:M (.bool i)):M x:=(show x= .bool i from e) ▸ k
@[elab_as_elim] theorem VR.list_e {xs:List D} (e:VR C σ ρ h (.dat (.list xs)) x) (k:∀a vs n,¬Own C σ ρ a→IsL h a vs n→RdDs h (Own C σ ρ) (mDs C.ν xs) vs.toList→vs.size=xs.length→M (.ref a)):M x:=RdD.list_e (h:=h) (P:=Own C σ ρ) (xs:=mDs C.ν xs) (M:=M) e fun a vs n p l r=>k a vs n p l r (Array.length_toList.symm.trans (r.len.trans (by rw[Xj,List.length_map])))
@[elab_as_elim] theorem VR.tup_e {xs:List D} (e:VR C σ ρ h (.dat (.tuple xs)) x) (k:∀a o vs n,¬Own C σ ρ a→h.get? a=some o→o.cls= .type "tuple"→o.data= .seq vs n→RdDs h (Own C σ ρ) (mDs C.ν xs) vs.toList→vs.size=xs.length→M (.ref a)):M x:=RdD.tup_e (h:=h) (P:=Own C σ ρ) (xs:=mDs C.ν xs) (M:=M) e fun a o vs n p l c d r=>k a o vs n p l c d r (Array.length_toList.symm.trans (r.len.trans (by rw[Xj,List.length_map])))
@[elab_as_elim] theorem VR.loc_e {l:Lc} (e:VR C σ ρ h (.loc l) x) (k:Dom σ l→M (.ref (ρ l))):M x:=e.1 ▸ k e.2
end
structure Zx where
 C:Cx
 t:Tn
 env:Env
 d:Nat
 mg:Str→Option Value
 mb:Str→Option Value
structure ZOk(Z:Zx):Prop where
 X:Vr Z.C Z.mg Z.mb
 N:Yd Z.C Z.t Z.env
structure Pre(Z:Zx)(lo:Zd)(A:Around)(s:Shared)(σ:St)(ρ:Rho):Prop where
 rm:Room A Z.d
 r:R Z.C σ ρ s.heap
 F:FrS Z.C σ ρ s.heap Z.env Z.t lo
abbrev Zx.wp{α:Type}(Z:Zx)(A:Around)(x:Sem α)(Q:α→Shared→Prop)(E:Value→Shared→Prop)(s:Shared):Prop:=wpAny (model Z.C.prog Z.C.wld) A x Q E s
def KV(Z:Zx)(lo:Zd)(A:Around)(s:Shared)(σ:St)(ρ:Rho)(v:V)(σ':St)(Q:Value→Shared→Prop):Prop:=∀ρ' s' x,Pre Z lo A s' σ' ρ'→Ext Z.C σ ρ s σ' ρ' s'→VR Z.C σ' ρ' s'.heap v x→Q x s'
def KT(Z:Zx)(lo:Zd)(A:Around)(s:Shared)(σ:St)(ρ:Rho)(σ':St)(Q:Shared→Prop):Prop:=∀ρ' s',Pre Z lo A s' σ' ρ'→Ext Z.C σ ρ s σ' ρ' s'→Q s'
def KL(Z:Zx)(lo:Zd)(A:Around)(s:Shared)(σ:St)(ρ:Rho)(vs:List V)(σ':St)(Q:List Value→Shared→Prop):Prop:=∀ρ' s' xs,Pre Z lo A s' σ' ρ'→Ext Z.C σ ρ s σ' ρ' s'→VRs Z.C σ' ρ' s'.heap vs xs→Q xs s'
def WE(Z:Zx)(e:Expr)(lo:Zd)(σ:St)(v:V)(σ':St):Prop:=∀A s ρ Q E,Pre Z lo A s σ ρ→KV Z lo A s σ ρ v σ' Q→Z.wp A (eval e Z.env) Q E s
def WT(Z:Zx)(e:Expr)(lo:Zd)(σ:St)(b:Bool)(σ':St):Prop:=∀A s ρ Q E,Pre Z lo A s σ ρ→KT Z lo A s σ ρ σ' (Q b)→Z.wp A (isTrue e Z.env (eval e Z.env)) Q E s
def WL(Z:Zx)(es:List Expr)(lo:Zd)(σ:St)(vs:List V)(σ':St):Prop:=∀A s ρ pos Q E,Pre Z lo A s σ ρ→KL Z lo A s σ ρ vs σ' Q→Z.wp A (spliced (backTo pos (starEach es Z.env))) Q E s
def G9(Z:Zx)(k:Clo)(e:Expr):Prop:=∀lo σ v σ',k lo σ=some (v,σ')→WE Z e lo σ v σ'
def Yh4(Z:Zx)(k:Clo)(e:Expr):Prop:=∀lo σ b σ',k lo σ=some (.dat (.bool b),σ')→WT Z e lo σ b σ'
noncomputable def Z1 (e:Expr):Bool:=kk (fun _ _ _=>true) (fun _ _ _ _=>true) (fun _ _ _=>true) (fun _ _ _ _=>true) (fun _ _ _=>true) (fun _ _ _ _=>true) (fun _ _ _ _=>true) (fun _ _ _ _=>true) (fun _ _ _=>true) (fun _ _ _=>true) (fun _ _ _=>true) (fun _ _=>true) (fun _ _=>true) (fun _ _ _=>true) (fun _ _ _ _=>false) e
noncomputable def Ef (e:Expr):Bool:=kk (fun _ _ _=>false) (fun _ _ _ _=>true) (fun o _ _=>decide (o= .USub)) (fun _ _ _ _=>false) (fun _ _ _=>true) (fun _ _ _ _=>true) (fun _ _ _ _=>false) (fun _ _ _ _=>true) (fun _ _ _=>true) (fun _ _ _=>true) (fun _ _ _=>true) (fun _ _=>true) (fun _ _=>true) (fun _ _ _=>true) (fun _ _ _ _=>true) e
structure S2(Z:Zx)(k:Clo)(e:Expr):Prop where
 s:G9 Z k e
 t:Yh4 Z k e
 p:Z1 e=true
structure SL(Z:Zx)(k:Q3)(es:List Expr):Prop where
 s:∀lo σ vs σ',k lo σ=some (vs,σ')→WL Z es lo σ vs σ'
 p:es.all Z1=true
section
variable{Z:Zx}{lo:Zd}{A:Around}{s s':Shared}{σ:St}{ρ:Rho}
@[elab_as_elim] theorem Z0 {α β:Type} {a c:α} {b d:β} (h:some (a,b)=some (c,d)) {M:α→β→Prop} (k:M a b):M c d:=by
  cases h;exact k
theorem Pre.grow(P:Pre Z lo A s σ ρ)(k:∀b x,s.heap.get? b=some x→s'.heap.get? b=some x)(e:Yn s'=Yn s):Pre Z lo A s' σ ρ:=⟨P.rm,P.r.grow k,P.F.ext (.grow k e)⟩
theorem Pre.to{σ':St}{ρ':Rho}(P:Pre Z lo A s σ ρ)(r:R Z.C σ' ρ' s'.heap)(k:Ext Z.C σ ρ s σ' ρ' s'):Pre Z lo A s' σ' ρ':=⟨P.rm,r,P.F.ext k⟩
theorem KV.here{v:V}{Q:Value→Shared→Prop}(q:KV Z lo A s σ ρ v σ Q)(P:Pre Z lo A s σ ρ){x:Value}(h:VR Z.C σ ρ s.heap v x):Q x s:=q ρ s x P (.refl ..) h
theorem KV.tok{v:V}{Q:Value→Shared→Prop}{n:Nat}(q:KV Z lo A s σ ρ v σ Q)(P:Pre Z lo A s σ ρ){x:Value}(h:VR Z.C σ ρ s.heap v x):Q x {s with toks:=n}:=q ρ _ x (P.grow (fun _ _ g=>g) rfl) (.grow (fun _ _ g=>g) rfl) h
theorem KV.grow{v:V}{Q:Value→Shared→Prop}(q:KV Z lo A s σ ρ v σ Q)(P:Pre Z lo A s σ ρ)(k:∀b x,s.heap.get? b=some x→s'.heap.get? b=some x)(e:Yn s'=Yn s){x:Value}(h:VR Z.C σ ρ s'.heap v x):Q x s':=q ρ _ x (P.grow k e) (.grow k e) h
theorem KV.to{v:V}{σ':St}{ρ':Rho}{Q:Value→Shared→Prop}(q:KV Z lo A s σ ρ v σ' Q)(P:Pre Z lo A s σ ρ){x:Value}(r:R Z.C σ' ρ' s'.heap)(k:Ext Z.C σ ρ s σ' ρ' s')(h:VR Z.C σ' ρ' s'.heap v x):Q x s':=q ρ' s' x (P.to r k) k h
theorem KV.after{v:V}{σ1 σ':St}{ρ1:Rho}{s1:Shared}{Q:Value→Shared→Prop}(q:KV Z lo A s σ ρ v σ' Q)(k:Ext Z.C σ ρ s σ1 ρ1 s1):KV Z lo A s1 σ1 ρ1 v σ' Q:=fun ρ' s' x P k' h=>q ρ' s' x P (k.trans k') h
theorem KT.after{σ1 σ':St}{ρ1:Rho}{s1:Shared}{Q:Shared→Prop}(q:KT Z lo A s σ ρ σ' Q)(k:Ext Z.C σ ρ s σ1 ρ1 s1):KT Z lo A s1 σ1 ρ1 σ' Q:=fun ρ' s' P k'=>q ρ' s' P (k.trans k')
theorem KL.after{v:List V}{σ1 σ':St}{ρ1:Rho}{s1:Shared}{Q:List Value→Shared→Prop}(q:KL Z lo A s σ ρ v σ' Q)(k:Ext Z.C σ ρ s σ1 ρ1 s1):KL Z lo A s1 σ1 ρ1 v σ' Q:=fun ρ' s' x P k' h=>q ρ' s' x P (k.trans k') h
end
theorem Oa{v:V}{b:Bool}(h:M3 v=some b){M:V→Prop}(k:M (.dat (.bool b))):M v:=Rh h fun d h=>Ya2 (M:=fun d=>M (.dat d)) h fun i h=>sj h ▸ k
section
variable{Z:Zx}{k:Clo}{e:Expr}
theorem S0{e:Expr}(h:Ef e=true)(env:Env)(whole:Sem Value):isTrue e env whole=(do let v ← whole;standAt e.pos;holding [v] (truthy v)):=
 U5 (M:=fun e=>isTrue e env whole=(do let v ← whole;standAt e.pos;holding [v] (truthy v))) h (fun _ _ _ h=>nf h) (fun _ _ _ _ _=>rfl) (fun o x p h=>of_decide_eq_true h ▸ rfl) (fun _ _ _ _ h=>nf h) (fun _ _ _ _=>rfl) (fun _ _ _ _ _=>rfl) (fun _ _ _ _ h=>nf h) (fun _ _ _ _ _=>rfl) (fun _ _ _ _=>rfl) (fun _ _ _ _=>rfl) (fun _ _ _ _=>rfl) (fun _ _ _=>rfl) (fun _ _ _=>rfl) (fun _ _ _ _=>rfl) (fun _ _ _ _ _=>rfl)
theorem S2.of(h:G9 Z k e)(p:(Ef e&&Z1 e)=true):S2 Z k e:=⟨h,fun lo σ b σ' he A s ρ Q E P q=>isTrue_plain (h lo σ _ σ' he A s ρ _ _ P fun ρ' s' x P' k v=>by
 rw[show x= .bool b from v]
 exact wpAny_truthy_bool (q ρ' s' P' k)) (S0 (a2 p).1 _ _),(a2 p).2⟩
theorem Zh{env:Env}{es:List Expr}(h:Z1 e=true):starEach (e::es) env=(false,eval e env)::starEach es env:=
 U5 (M:=fun e=>starEach (e::es) env=(false,eval e env)::starEach es env) h (fun _ _ _ _=>rfl) (fun _ _ _ _ _=>rfl) (fun _ _ _ _=>rfl) (fun _ _ _ _ _=>rfl) (fun _ _ _ _=>rfl) (fun _ _ _ _ _=>rfl) (fun _ _ _ _ _=>rfl) (fun _ _ _ _ _=>rfl) (fun _ _ _ _=>rfl) (fun _ _ _ _=>rfl) (fun _ _ _ _=>rfl) (fun _ _ _=>rfl) (fun _ _ _=>rfl) (fun _ _ _ _=>rfl) (fun _ _ _ _ h=>nf h)
theorem To{env:Env}:∀{es:List Expr},es.all Z1=true→starEach es env=es.map fun e=>(false,eval e env)
 | [],_=>rfl
 |e::es,h=>(Zh (a2 h).1).trans (Us rfl (To (a2 h).2))
theorem Ym{C:Cx}{t:Tn}{env:Env}{k:NameKind}{j:Nat}{x:Str}(N:Yd C t env)(h:okN t k j x=true):t.ns[j]? =some (x,k)∧env.kindOf x=some k∧(x == ("__debug__":Str))=false:=by
 have e:t.ns[j]? =some (x,k):=S6 (M':=fun o=>o=some (x,k)) h fun p h=>Yp h fun h1 h2=>congrArg some (Prod.ext (strB_iff.mp h1) (of_decide_eq_true h2));exact⟨e,N.ns j x k e⟩
end
set_option genInjectivity true
section
variable{Z:Zx}(H:ZOk Z)
theorem Ky{x:Str}{p:Pos}{y:Value}(H:ZOk Z)(hk:Z.env.kindOf x=some .globalImplicit)(hd:(x == ("__debug__":Str))=false)(hx:Z.mg x=some y){A:Around}{s:Shared}{Q:Value→Shared→Prop}{E:Value→Shared→Prop}(r:Z.C.K.In s.heap)(q:Q y s):Z.wp A (eval (.Name x p) Z.env) Q E s:=
 Name_function_global H.N.kind hk (loadGlobal_global (mg:=Z.mg) (by rw[H.N.glo];exact H.X.nsG _ r) hx q) hd
theorem Zyy(H:ZOk Z){j:Nat}{x:Str}{p:Pos}(ok:okN Z.t .local j x=true):S2 Z (eNm j) (.Name x p):= .of (fun lo σ v σ' ev=>Za ev fun o h1 ev=>Za ev fun w h2 ev=>Z0 ev fun A s ρ Q E P q=>by
 have n:=Ym H.N ok;obtain⟨m,a,b⟩:=P.F.at_;obtain⟨n',k,x',z1,z2,z3⟩:=b j _ (h1.trans (congrArg some h2));cases z1.symm.trans n.1
 exact wpAny_Name (wpAny_loadName_local H.N.kind n.2.1 a z2 (q.here P z3)) n.2.2) rfl
theorem Ygv(H:ZOk Z){j g:Nat}{x:Str}{p:Pos}(ok:okN Z.t .globalImplicit j x=true)(hx:Zs (Z.t.gn g) x=true):S2 Z (eGl Z.C.T g) (.Name x p):= .of (fun lo σ v σ' ev=>Za ev fun w h1 ev=>Z0 ev fun A s ρ Q E P q=>by
 have n:=Ym H.N ok;have hx:=strB_iff.mp hx;obtain⟨y,hy,z⟩:=H.X.gv g _ h1;rw[← H.N.gn,hx] at hy;refine Ky H n.2.1 n.2.2 hy P.r.fr (q.here P ?_);cases w with
 |dat dd=>
  cases dd with
  |int i=>exact z.2.elim fun tk e=>⟨tk,by rw[e,show Z.C.ν i=i from Zo H.X.v0 z.1]⟩
  |str y=>exact z
  |_=>exact z.elim
 |loc l=>
  cases l with
  |id n=>exact z.elim fun a e=>⟨by rw[e.2,(P.r.sta n a e.1).1],Nat.lt_of_lt_of_le (P.r.sta n a e.1).2 P.r.old⟩
  |_=>exact z.elim) rfl
theorem s_c(H:ZOk Z){dd:D}{c:Const}{j:Nat}{p:Pos}(ok:okC dd c=true):S2 Z (eC dd) (.Constant c j p):= .of (fun lo σ v σ' ev=>Z0 ev fun A s ρ Q E P q=>by
 cases dd with
 |none=>exact Zgb (M:=fun c=>Z.wp A (eval (.Constant c j p) Z.env) Q E s) ok (wpAny_Constant_none (q.here P rfl))
 |bool a=>exact Zg9 (M:=fun c=>Z.wp A (eval (.Constant c j p) Z.env) Q E s) ok fun b h=>wpAny_Constant_bool (q.here P (congrArg Value.bool (eq_of_beq h).symm))
 |int a=>exact Pl (M:=fun c=>Z.wp A (eval (.Constant c j p) Z.env) Q E s) ok fun b h=>Yp h fun h1 h2=>wpAny_Constant_int (q.tok P ⟨_,by rw[show Z.C.ν a=a from Zo H.X.v0 h2,of_decide_eq_true h1]⟩)
 |str a=>exact Kp (M:=fun c=>Z.wp A (eval (.Constant c j p) Z.env) Q E s) ok fun b h=>wpAny_Constant_str (q.tok P ⟨_,by rw[strB_iff.mp h]⟩)
 |_=>exact nf ok) rfl
@[elab_as_elim] theorem Nt {a c:Bool} {b d:St} (h:some (V.dat (.bool a),b)=some (V.dat (.bool c),d)) {M:Bool→St→Prop} (k:M a b):M c d:=by
  cases h;exact k
theorem Vq{k:Clo}{lo:Zd}{σ σ1:St}{v:V}{b:Bool}(h:M3 v=some b)(e:k lo σ=some (v,σ1)):k lo σ=some (.dat (.bool b),σ1):=Oa (M:=fun v=>k lo σ=some (v,σ1)→_) h (fun e=>e) e
theorem Tg{op:CmpOp}{e:Expr}(h:Z1 e=true):behindInMarks op e=false:=U5 (M:=fun e=>behindInMarks op e=false) h (fun _ _ _ _=>rfl) (fun _ _ _ _ _=>rfl) (fun _ _ _ _=>rfl) (fun _ _ _ _ _=>rfl) (fun _ _ _ _=>rfl) (fun _ _ _ _ _=>rfl) (fun _ _ _ _ _=>rfl) (fun _ _ _ _ _=>rfl) (fun _ _ _ _=>rfl) (fun _ _ _ _=>rfl) (fun _ _ _ _=>rfl) (fun _ _ _=>rfl) (fun _ _ _=>rfl) (fun _ _ _ _=>rfl) (fun _ _ _ _ h=>nf h)
theorem Zyz{a:Clo}{x:Expr}{p:Pos}(ha:S2 Z a x):S2 Z (Zs7 a) (.UnaryOp .Not x p):=⟨fun lo σ v σ' ev=>Yk ev fun u σ1 h1 ev=>Za ev fun b h2 ev=>Z0 ev fun A s ρ Q E P q=>
 UnaryOp_ (ha.s lo σ _ σ1 (Vq h2 h1) A s ρ _ _ P fun ρ' s' y P' k vr=>vr.bool_e (not_of (wpAny_truthy_bool (q ρ' s' _ P' k rfl)))),
 fun lo σ b σ' ev=>Yk ev fun u σ1 h1 ev=>Za ev fun b' h2 ev=>Nt ev fun A s ρ Q E P q=>isTrue_not (ha.t lo σ b' σ1 (Vq h2 h1) A s ρ _ _ P q),rfl⟩
theorem ν_neg{val:Int→Int}(h0:val 0=0){i:Int}(h:small i=true):vC val (-i)= -vC val i:=by
 have l:=Xw h;rw[Rg h0 h,Zag h0 (hi0 (i:= -i) (by omega) (by omega))]
theorem Zyx(H:ZOk Z){a:Clo}{x:Expr}{p:Pos}(ha:S2 Z a x):S2 Z (Zs6 a) (.UnaryOp .USub x p):= .of (fun lo σ v σ' ev=>Fa ev fun i σ1 h1 ev=>Zl ev fun h2 ev=>Z0 ev fun A s ρ Q E P q=>by
 refine UnaryOp_ (ha.s lo σ _ σ1 h1 A s ρ _ _ P fun ρ' s' y P' k vr=> ?_);refine vr.int_e fun tk=> ?_
 exact neg_int ((q.after k).tok P' ⟨s'.toks,congrArg (Value.int · s'.toks) (ν_neg H.X.v0 h2).symm⟩)) rfl
theorem two{a b:Clo}{l r:Expr}(ha:G9 Z a l)(hb:G9 Z b r){lo:Zd}{σ σ1 σ2:St}{x y:V}(h1:a lo σ=some (x,σ1))(h2:b lo σ1=some (y,σ2)){A:Around}{s:Shared}{ρ:Rho}{K:Value→Value→Shared→Prop}{E:Value→Shared→Prop}(P:Pre Z lo A s σ ρ)
 (q:∀ρ' s' u w,Pre Z lo A s' σ2 ρ'→Ext Z.C σ ρ s σ2 ρ' s'→VR Z.C σ2 ρ' s'.heap x u→VR Z.C σ2 ρ' s'.heap y w→K u w s'):
 Z.wp A (eval l Z.env) (fun u s1=>Z.wp A (eval r Z.env) (fun w s2=>K u w s2) E s1) E s:=
 ha lo σ x σ1 h1 A s ρ _ _ P fun ρ1 s1 u P1 k1 v1=>hb lo σ1 y σ2 h2 A s1 ρ1 _ _ P1 fun ρ2 s2 w P2 k2 v2=>q ρ2 s2 u w P2 (k1.trans k2) (v1.ext k2) v2
def Q7(Z:Zx)(lo:Zd)(f:Value→Value→Sem Value)(x y:V)(σ:St)(v:V)(σ':St):Prop:=∀A s ρ u w Q E,Pre Z lo A s σ ρ→VR Z.C σ ρ s.heap x u→VR Z.C σ ρ s.heap y w→KV Z lo A s σ ρ v σ' Q→Z.wp A (f u w) Q E s
def Zdh(Z:Zx)(op:Operator):Prop:=∀lo x y v σ σ',Zrk Z.C.T.fx op x y σ=some (v,σ')→Q7 Z lo (binaryOp op) x y σ v σ'
def Zdj(Z:Zx)(op:CmpOp):Prop:=∀lo x y b σ,Zq3 Z.C.T op x y σ=some b→Q7 Z lo (compareOp op) x y σ (.dat (.bool b)) σ
theorem Zyq{a b:Clo}{l r:Expr}{op:Operator}{p:Pos}(ho:Zdh Z op)(ha:S2 Z a l)(hb:S2 Z b r):S2 Z (Zq6 Z.C.T op a b) (.BinOp l op r p):= .of (fun lo σ v σ' ev=>Yk ev fun x σ1 h1 ev=>Yk ev fun y σ2 h2 ev A s ρ Q E P q=>
 wpAny_BinOp (two ha.s hb.s h1 h2 P fun ρ' s' u w P' k v1 v2=>ho lo x y v σ2 σ' ev A s' ρ' u w Q E P' v1 v2 (q.after k))) rfl
theorem Zys{a b:Clo}{l r:Expr}{op:CmpOp}{p:Pos}(ho:Zdj Z op)(ha:S2 Z a l)(hb:S2 Z b r):S2 Z (Zq7 Z.C.T op a b) (.Compare l [op] [r] p):=⟨fun lo σ v σ' ev=>Yk ev fun x σ1 h1 ev=>Yk ev fun y σ2 h2 ev=>Za ev fun c h3 ev=>Z0 ev fun A s ρ Q E P q=>
 wpAny_Compare1 (two ha.s hb.s h1 h2 P fun ρ' s' u w P' k v1 v2=>ho lo x y c σ2 h3 A s' ρ' u w Q E P' v1 v2 (q.after k)) (Tg hb.p),
 fun lo σ b σ' ev=>Yk ev fun x σ1 h1 ev=>Yk ev fun y σ2 h2 ev=>Za ev fun c h3 ev=>Nt ev fun A s ρ Q E P q=>wpAny_isTrue_Compare1 (two ha.s hb.s h1 h2 P fun ρ' s' u w P' k v1 v2=>ho lo x y c σ2 h3 A s' ρ' u w _ E P' v1 v2 fun ρ2 s2 z P2 k2 v3=>by
     rw[show z= .bool c from v3]
     exact wpAny_truthy_bool (q ρ2 s2 P2 (k.trans k2))) (Tg hb.p),rfl⟩
theorem Ep:SL Z (eEs []) []:=⟨fun lo σ vs σ' ev=>Z0 ev fun A s ρ pos Q E P q=>args_nil (q ρ s [] P (.refl ..) rfl),rfl⟩
theorem A2{e:Clo}{ih:Q3}{x:Expr}{xs:List Expr}(he:S2 Z e x)(hl:SL Z ih xs):SL Z (Dw e ih) (x::xs):=⟨fun lo σ vs σ' ev=>Yk ev fun v σ1 h1 ev=>Yk ev fun us σ2 h2 ev=>Z0 ev fun A s ρ pos Q E P q=>
 args_cons (he.s lo σ v σ1 h1 A s ρ _ _ P fun ρ1 s1 x P1 k1 v1=>hl.s lo σ1 us σ2 h2 A s1 ρ1 pos _ _ P1 fun ρ2 s2 xs P2 k2 v2=>q ρ2 s2 (x::xs) P2 (k1.trans k2) ⟨x,xs,rfl,v1.ext k2,v2⟩) (Zh he.p),
 (Bool.and_eq_true _ _).mpr ⟨he.p,hl.p⟩⟩
theorem Zyu{c a b:Clo}{x y z:Expr}{p:Pos}(hc:S2 Z c x)(ha:S2 Z a y)(hb:S2 Z b z):S2 Z (Zq8 c a b) (.IfExp x y z p):=⟨fun lo σ v σ' ev=>Yk ev fun u σ1 h1 ev=>Za ev fun tt h2 ev A s ρ Q E P q=>
 IfExp_ (hc.t lo σ tt σ1 (Vq h2 h1) A s ρ _ _ P fun ρ1 s1 P1 k1=>by
  cases tt with
  |true=>exact ha.s lo σ1 v σ' ev A s1 ρ1 _ _ P1 (q.after k1)
  |false=>exact hb.s lo σ1 v σ' ev A s1 ρ1 _ _ P1 (q.after k1)),
 fun lo σ b σ' ev=>Yk ev fun u σ1 h1 ev=>Za ev fun tt h2 ev A s ρ Q E P q=>
  isTrue_IfExp (hc.t lo σ tt σ1 (Vq h2 h1) A s ρ _ _ P fun ρ1 s1 P1 k1=>by
   cases tt with
   |true=>exact ha.t lo σ1 b σ' ev A s1 ρ1 _ _ P1 (q.after k1)
   |false=>exact hb.t lo σ1 b σ' ev A s1 ρ1 _ _ P1 (q.after k1)),rfl⟩
structure SB(Z:Zx)(op:BoolOp)(k:Clo)(es:List Expr):Prop where
 s:∀lo σ v σ',k lo σ=some (v,σ')→∀A s ρ pos Q E,Pre Z lo A s σ ρ→KV Z lo A s σ ρ v σ' Q→Z.wp A (eval (.BoolOp op es pos) Z.env) Q E s
 t:∀lo σ b σ',k lo σ=some (.dat (.bool b),σ')→∀A s ρ pos whole Q E,Pre Z lo A s σ ρ→KT Z lo A s σ ρ σ' (Q b)→Z.wp A (isTrue (.BoolOp op es pos) Z.env whole) Q E s
theorem Zor{op:BoolOp}{a:Clo}{e:Expr}(ha:S2 Z a e):SB Z op a [e]:=⟨fun lo σ v σ' ev A s ρ pos Q E P q=>BoolOp_one (ha.s lo σ v σ' ev A s ρ Q E P q),fun lo σ b σ' ev A s ρ pos whole Q E P q=>by
 cases op with
 |And=>exact isTrue_and (ha.t lo σ b σ' ev A s ρ _ _ P fun ρ' s' P' k=>by
   cases b with
   |true=>exact isTrue_and_nil (q ρ' s' P' k)
   |false=>exact q ρ' s' P' k)
 |Or=>exact isTrue_or (ha.t lo σ b σ' ev A s ρ _ _ P fun ρ' s' P' k=>by
   cases b with
   |true=>exact q ρ' s' P' k
   |false=>exact isTrue_or_nil (q ρ' s' P' k))⟩
theorem Ay{op:BoolOp}{a k:Clo}{e e':Expr}{es:List Expr}(ha:S2 Z a e)(hl:SB Z op k (e'::es)):SB Z op (Zep op a k) (e::e'::es):=⟨fun lo σ v σ' ev=>Yk ev fun u σ1 h1 ev=>Za ev fun c h2 ev=>Oa (M:=fun u=>a lo σ=some (u,σ1)→bp (Li op c) (some (u,σ1)) (k lo σ1)=some (v,σ')→_) h2 (fun h1 ev A s ρ pos Q E P q=>by
 cases op with
 |And=>
  refine BoolOp_and (ha.s lo σ _ σ1 h1 A s ρ _ _ P fun ρ1 s1 x P1 k1 v1=> ?_);rw[show x= .bool c from v1];refine wpAny_truthy_bool ?_;cases c with
  |true=>exact hl.s lo σ1 v σ' ev A s1 ρ1 pos _ _ P1 (q.after k1)
  |false=>exact Z0 (M:=fun v σ'=>KV Z lo A s1 σ1 ρ1 v σ' Q→_) ev (fun q=>q.here P1 rfl) (q.after k1)
 |Or=>
  refine BoolOp_or (ha.s lo σ _ σ1 h1 A s ρ _ _ P fun ρ1 s1 x P1 k1 v1=> ?_);rw[show x= .bool c from v1];refine wpAny_truthy_bool ?_;cases c with
  |true=>exact Z0 (M:=fun v σ'=>KV Z lo A s1 σ1 ρ1 v σ' Q→_) ev (fun q=>q.here P1 rfl) (q.after k1)
  |false=>exact hl.s lo σ1 v σ' ev A s1 ρ1 pos _ _ P1 (q.after k1)) h1 ev,
 fun lo σ b σ' ev=>Yk ev fun u σ1 h1 ev=>Za ev fun c h2 ev=>Oa (M:=fun u=>a lo σ=some (u,σ1)→bp (Li op c) (some (u,σ1)) (k lo σ1)=some (.dat (.bool b),σ')→_) h2 (fun h1 ev A s ρ pos whole Q E P q=>by
  cases op with
  |And=>
   refine isTrue_and (ha.t lo σ c σ1 h1 A s ρ _ _ P fun ρ1 s1 P1 k1=> ?_);cases c with
   |true=>exact hl.t lo σ1 b σ' ev A s1 ρ1 pos whole _ _ P1 (q.after k1)
   |false=>exact Nt (M:=fun b σ'=>KT Z lo A s1 σ1 ρ1 σ' (Q b)→Q false s1) ev (fun q=>q ρ1 s1 P1 (.refl ..)) (q.after k1)
  |Or=>
   refine isTrue_or (ha.t lo σ c σ1 h1 A s ρ _ _ P fun ρ1 s1 P1 k1=> ?_);cases c with
   |true=>exact Nt (M:=fun b σ'=>KT Z lo A s1 σ1 ρ1 σ' (Q b)→Q true s1) ev (fun q=>q ρ1 s1 P1 (.refl ..)) (q.after k1)
   |false=>exact hl.t lo σ1 b σ' ev A s1 ρ1 pos whole _ _ P1 (q.after k1)) h1 ev⟩
theorem Zyr{op:BoolOp}{k:Clo}{es:List Expr}{p:Pos}(h:SB Z op k es):S2 Z k (.BoolOp op es p):=⟨fun lo σ v σ' ev A s ρ Q E P q=>h.s lo σ v σ' ev A s ρ p Q E P q,fun lo σ b σ' ev A s ρ Q E P q=>h.t lo σ b σ' ev A s ρ p _ Q E P q,rfl⟩
end
end Mine
namespace Mine
open PySem PySem.W PySem.Calls PyProof.Rows PySem.SeqAt
section
variable{C:Cx}{σ σ':St}{ρ:Rho}{s:Shared}{h:Heap}
theorem Xi(ν:Int→Int)(a b:List D):mDs ν (a++b)=mDs ν a++mDs ν b:=by rw[Xj,Xj,Xj,List.map_append]
theorem Y3(ν:Int→Int)(a:List D):(mDs ν a).length=a.length:=by rw[Xj,List.length_map]
theorem Wj{n:Nat}(h:Ws n=true):n≤sizeLine:=by rw[sizeLine_eq];exact Nat.le_trans (Nat.le_of_ble_eq_true h) (by decide)
theorem VRs.len:∀{l:List V} {xs:List Value},VRs C σ ρ h l xs→xs.length=l.length
 | [],xs,e=>e.nil_e rfl
 |v::r,xs,e=>e.cons_e fun x xs' _ e=>congrArg (· + 1) (VRs.len e)
theorem I7{n:Nat}{o:O}(r:R C σ ρ h)(h0:C.get σ n=some o)(hd:o≠ .dead)(h1:X3 σ n .dead=some σ'):¬Own C σ' ρ (ρ (.id n)):=by
 rintro⟨l',d1,d2,d3⟩;have hg:∀m,C.get σ' m=if m=n then some .dead else C.get σ m:=fun m=>R5 h1 ⟨_,h0⟩ m
 have no:∀{m x},C.get σ' m=some x→x≠ .dead→m≠n∧C.get σ m=some x:=fun{m x} z zd=>by
  rw[hg] at z;by_cases e:m=n
  ·rw[if_pos e] at z;exact(zd (sj z).symm).elim
  ·rw[if_neg e] at z;exact⟨e,z⟩
 have ln:Z2 C σ (.id n):=⟨o,h0,hd⟩;have hw:σ'.w=σ.w:=by rw[(Sl h1).2.2]
 have fin:Z2 C σ l'→l'≠ .id n→False:=fun a b=>b (r.inj _ _ a ln d3);cases l' with
 |id m=>exact d1.elim fun o z=>fin ⟨o,(no z.1 z.2).2,z.2⟩ fun e=>(no z.1 z.2).1 (Lc.id.inj e)
 |idd m=>exact d1.elim fun c z=>z.elim fun vs z=>fin ⟨c,vs,(no z nofun).2⟩ nofun
 |_=>exact fin (by unfold Z2 Tz at d1 ⊢;rw[hw] at d1;exact d1) nofun
structure Frz(C:Cx)(σ:St)(ρ:Rho)(h:Heap)(σ':St):Prop where
 r:R C σ' ρ h
 st:Stays h (Own C σ ρ) h (Own C σ' ρ)
 dom:∀l,Dom σ l→Dom σ' l
 base:σ'.base=σ.base
theorem Frz.trans{σ1:St}(a:Frz C σ ρ h σ1)(b:Frz C σ1 ρ h σ'):Frz C σ ρ h σ':=⟨b.r,a.st.trans b.st,fun l d=>b.dom l (a.dom l d),b.base.trans a.base⟩
theorem Frz.ext(a:Frz C σ ρ s.heap σ'):Ext C σ ρ s σ' ρ s:=⟨a.st,a.dom,fun _ _=>rfl,a.base,rfl⟩
theorem Zfo{v:V}{vs:List V}{x:Value}{xs:List Value}{ds:List D}(ih:∀{σ σ':St} {ds:List D},Vi C.T vs σ=some (ds,σ')→R C σ ρ h→VRs C σ ρ h vs xs→Frz C σ ρ h σ'∧RdDs h (Own C σ' ρ) (mDs C.ν ds) xs)
 (e:frz C.T v (Vi C.T vs) σ=some (ds,σ')) (r:R C σ ρ h) (v1:VR C σ ρ h v x) (v2:VRs C σ ρ h vs xs):Frz C σ ρ h σ'∧RdDs h (Own C σ' ρ) (mDs C.ν ds) (x::xs):=by
 cases v with
 |dat d=>
  refine Yk (x:=Vi C.T vs σ) (f:=fun ds σ'=>some (d::ds,σ')) e fun ds' σ1 h1 e=>Z0 e ?_;have z:=ih h1 r v2;exact⟨z.1,x,xs,rfl,RdD.stays z.1.st v1,z.2⟩
 |loc l=>
  refine Zb3 (M:=fun l=>VR C σ ρ h (.loc l) x→_) e (fun n e v1=>Zmt e fun l h0 e=>Za e fun σ1 h1 e=>Yk e fun ds' σ2 h2 e=>Z0 e (v1.loc_e fun _=> ?_)) v1;have p:=r.put h0 nofun h1 (h':=h) (fun _ _ _ _ g=>g) (fun z=>z.elim fun _ z=>z.elim nofun) (fun _ _=>trivial);have f1:Frz C σ ρ h σ1:=⟨p.1,p.2.1,p.2.2.1,p.2.2.2⟩;have z:=ih h2 p.1 (v2.stays p.2.1 p.2.2.1 (fun _ _=>rfl));obtain⟨items,⟨n',hx⟩,w2⟩:=r.rep n _ h0;exact⟨f1.trans z.1,_,xs,rfl,⟨ρ (.id n),items,rfl,z.1.st.own _ _ (I7 r h0 nofun h1) hx,⟨n',hx⟩,RdDs.stays (f1.trans z.1).st w2⟩,z.2⟩
theorem R4:∀{vs:List V} {xs:List Value} {σ σ':St} {ds:List D},Vi C.T vs σ=some (ds,σ')→R C σ ρ h→VRs C σ ρ h vs xs→Frz C σ ρ h σ'∧RdDs h (Own C σ' ρ) (mDs C.ν ds) xs
 | [],xs,σ,σ',ds,e,r,v=>Z0 (M:=fun ds σ'=>Frz C σ ρ h σ'∧RdDs h (Own C σ' ρ) (mDs C.ν ds) xs) e ⟨⟨r,.refl ..,fun _ d=>d,rfl⟩,v⟩
 |v::vs,xs,σ,σ',ds,e,r,vr=>vr.cons_e fun x xs' v1 v2=>Zfo (fun a b c=>R4 a b c) e r v1 v2
theorem Ug:∀{vs:List V} {ds:List D} {xs:List Value},datas? vs=some ds→VRs C σ ρ h vs xs→RdDs h (Own C σ ρ) (mDs C.ν ds) xs
 | [],ds,xs,e,v=>sj e ▸ v
 |v::vs,ds,xs,e,vr=>vr.cons_e fun x xs' v1 v2=>Rh (M:=fun v=>VR C σ ρ h v x→RdDs h (Own C σ ρ) (mDs C.ν ds) (x::xs')) e (fun d e v1=>Za (x:=datas? vs) e fun us h1 e=>sj e ▸ ⟨x,xs',rfl,v1,Ug h1 v2⟩) v1
theorem Vv{s:Shared}{o:Obj}:∀b x,s.heap.get? b=some x→(s.heap.push o).get? b=some x:=fun b x g=>Heap.get?_push_of_some _ g
theorem Ql(r:R C σ ρ s.heap){ds:List D}{xs:List Value}(v:RdDs s.heap (Own C σ ρ) (mDs C.ν ds) xs):VR C σ ρ (s.heap.push {cls:= .type "list",data:= .seq xs.toArray}) (.dat (.list ds)) (.ref s.heap.objs.size):=
 ⟨s.heap.objs.size,xs.toArray,rfl,r.fresh (Zv _),⟨0,Heap.get?_push_size _ rfl⟩,by rw[List.toList_toArray];exact RdDs.stays (P':=Own C σ ρ) ⟨fun b o _ g=>Vv b o g,fun _ _ n _=>n⟩ v⟩
theorem Mw(r:R C σ ρ s.heap){ds:List D}{xs:List Value}(v:RdDs s.heap (Own C σ ρ) (mDs C.ν ds) xs):VR C σ ρ (s.heap.push {cls:= .type "tuple",data:= .seq xs.toArray}) (.dat (.tuple ds)) (.ref s.heap.objs.size):=
 ⟨s.heap.objs.size,_,xs.toArray,0,rfl,r.fresh (Zv _),Heap.get?_push_size _ rfl,rfl,rfl,by rw[List.toList_toArray];exact RdDs.stays (P':=Own C σ ρ) ⟨fun b o _ g=>Vv b o g,fun _ _ n _=>n⟩ v⟩
end
section
variable{Z:Zx}{lo:Zd}{A:Around}{s:Shared}{σ σ':St}{ρ:Rho}{v:V}{Q:Value→Shared→Prop}
theorem KV.list{ds:List D}{xs:List Value}(q:KV Z lo A s σ ρ (.dat (.list ds)) σ Q)(P:Pre Z lo A s σ ρ)(g:RdDs s.heap (Own Z.C σ ρ) (mDs Z.C.ν ds) xs):Q (.ref s.heap.objs.size) {s with heap:=s.heap.push {cls:= .type "list",data:= .seq xs.toArray}}:=q.grow (s':={s with heap:=s.heap.push {cls:= .type "list",data:= .seq xs.toArray}}) P Vv rfl (Ql P.r g)
theorem KV.tup{ds:List D}{xs:List Value}(q:KV Z lo A s σ ρ (.dat (.tuple ds)) σ Q)(P:Pre Z lo A s σ ρ)(g:RdDs s.heap (Own Z.C σ ρ) (mDs Z.C.ν ds) xs):Q (.ref s.heap.objs.size) {s with heap:=s.heap.push {cls:= .type "tuple",data:= .seq xs.toArray}}:=q.grow (s':={s with heap:=s.heap.push {cls:= .type "tuple",data:= .seq xs.toArray}}) P Vv rfl (Mw P.r g)
theorem KV.new{o:O}{ob:Obj}(q:KV Z lo A s σ ρ (Zy σ o).1 (Zy σ o).2 Q)(P:Pre Z lo A s σ ρ)(hi:∀c vs,o≠ .inst c vs)(h:∀σ' ρ',ρ' (.id σ.next)=s.heap.objs.size→(Stays s.heap (Own Z.C σ ρ) (s.heap.push ob) (Own Z.C σ' ρ'))→RepO Z.C σ' ρ' (s.heap.push ob) σ.next o):Q (.ref s.heap.objs.size) {s with heap:=s.heap.push ob}:=
 have z:=P.r.push_id (o:=o) (ob:=ob) hi fun st _ _=>h _ _ (if_pos rfl) st
 q.to P (s':={s with heap:=s.heap.push ob}) z.1 z.2.1 z.2.2
theorem Zz3{l:Q3}{es:List Expr}{k:Nat}{p:Pos}(hl:SL Z l es):S2 Z (Zqc Z.C.T l) (.Tuple es k p):= .of (fun lo σ v σ' ev=>Yk ev fun vs σ1 h1 ev=>Yk ev fun ds σ2 h2 ev=>Zl ev fun h3 ev=>Z0 ev fun A s ρ Q E P q=>
 wpAny_Tuple (hl.s lo σ vs σ1 h1 A s ρ p _ _ P fun ρ1 s1 xs P1 k1 v1=>have z:=R4 h2 P1.r v1
  ⟨by rw[z.2.len,Y3];exact Wj h3,(q.after (k1.trans z.1.ext)).tup (P1.to z.1.r z.1.ext) z.2⟩)) rfl
theorem Jd{h:Heap}{a:Addr}{o:Obj}(e:a=h.objs.size){vs:Array Value}{ob:Obj}(ho:ob=⟨.type "list",none,.seq vs 0,#[]⟩):IsLx (h.push ob) a vs:=⟨0,by rw[e,ho];exact Heap.get?_push_size _ rfl⟩
theorem Zyw{l:Q3}{es:List Expr}{md:Nat}{p:Pos}(hl:SL Z l es):S2 Z (Zer md l) (.List es p):= .of (fun lo σ v σ' ev=>Yk ev fun vs σ1 h1 ev A s ρ Q E P q=>
 wpAny_List (hl.s lo σ vs σ1 h1 A s ρ p _ _ P fun ρ1 s1 xs P1 k1 v1=>by
  have q:=q.after k1;cases vs with
  |nil=>
   rw[show xs=[] from v1];refine⟨Nat.zero_le _,?_⟩;have e:=sj ev;unfold Jf at e;split at e
   ·cases e;exact q.list (xs:=[]) P1 rfl
   ·cases e;exact q.new (o:= .dl []) (ob:={cls:= .type "list",data:= .seq #[]}) P1 nofun fun σ' ρ' e st=>⟨#[],Jd (o:=default) e rfl,rfl⟩
   ·cases e;exact q.new (o:= .rev []) (ob:={cls:= .type "list",data:= .seq #[]}) P1 nofun fun σ' ρ' e st=>⟨#[],Jd (o:=default) e rfl,rfl⟩
  |cons a r=>exact Za ev fun ds h2 ev=>Zl ev fun h3 ev=>⟨by rw[v1.len];exact Wj h3,Z0 (M:=fun v σ'=>KV Z lo A s1 σ1 ρ1 v σ' Q→_) ev (fun q=>q.list P1 (Ug h2 v1)) q⟩)) rfl
theorem s_dct0{p:Pos}:S2 Z Dx (.Dict [] [] p):= .of (fun lo σ v σ' ev=>by
 cases sj ev
 exact fun A s ρ Q E P q=>wpAny_Dict_empty (q.new (o:= .dict []) (ob:={cls:= .type "dict",data:= .dict #[]}) P nofun fun σ' ρ' e st=>⟨_,0,by rw[e];exact Heap.get?_push_size _ rfl,⟨rfl,rfl,rfl⟩,rfl⟩)) rfl
end
section
mutual
theorem Op(ν:Int→Int):∀d:D,(mD ν d).canLay0=d.canLay0
 |.none=>rfl
 |.bool _=>rfl
 |.int _=>rfl
 |.str _=>rfl
 |.list xs=>Ur ν xs
 |.tuple xs=>Ur ν xs
 |.dict _=>rfl
theorem Ur(ν:Int→Int):∀l:List D,PyData.canLayAll0 (mDs ν l)=PyData.canLayAll0 l
 | []=>rfl
 |d::r=>by
  show(PyData.canLay0 (mD ν d)&&PyData.canLayAll0 (mDs ν r))=_;rw[Op ν d,Ur ν r];rfl
end
mutual
theorem Lx(ν:Int→Int):∀d:D,(mD ν d).depth=d.depth
 |.none=>rfl
 |.bool _=>rfl
 |.int _=>rfl
 |.str _=>rfl
 |.list xs=>congrArg (· + 1) (Sr ν xs)
 |.tuple xs=>congrArg (· + 1) (Sr ν xs)
 |.dict _=>rfl
theorem Sr(ν:Int→Int):∀l:List D,PyData.depthAll (mDs ν l)=PyData.depthAll l
 | []=>rfl
 |d::r=>by
  show max (PyData.depth (mD ν d)) (PyData.depthAll (mDs ν r))=_;rw[Lx ν d,Sr ν r];rfl
end
theorem Qr{ν:Int→Int}{d:D}(h:shp d=true):shaped (mD ν d)=true:=by
 unfold shaped;rw[Op,Lx];exact h
theorem Sq{val:Int→Int}{Φ:List Fact}(hΦ:∀f∈Φ,f.Holds (vC val)){x:D}:∀{ys:List D} {b:Bool},Iz Φ x ys=some b→(mDs (vC val) ys).any (fun y=>PyData.eqv y (mD (vC val) x))=b
 | [],b,h=>sj h
 |y::r,b,h=>Za (x:=eqD Φ y x) h fun a h1 h=>Za (x:=Iz Φ x r) h fun c h2 h=>by
  show(PyData.eqv (mD _ y) (mD _ x) || (mDs (vC val) r).any _)=b;rw[Ov hΦ h1,Sq hΦ h2];exact sj h
theorem Xk{o:Option Bool}{b:Bool}(h:Q5 o=some b):o=some (!b):=Za h fun a e h=>by rw[e,← sj h,Bool.not_not]
theorem Lw{p:Prop} [Decidable p]{c:Bool}(h:p↔c=true):decide p=c:=by
 cases c with
 |true=>exact decide_eq_true (h.mpr rfl)
 |false=>exact decide_eq_false fun e=>nf (h.mp e)
theorem Jk{p q:Prop} [Decidable q]{c:Bool}(h:p↔(!c)=true)(hq:q↔¬p):decide q=c:=Lw (hq.trans ((not_congr h).trans (by cases c <;> decide)))
variable{C:Cx}{d:Nat}{mg mb:Str→Option Value}(X:Vr C mg mb)
include X
theorem Dl{op:CmpOp}{a b:Int}{c:Bool}(h:Zq2 C.T.fx op a b=some c){A:Around}{s:Shared}{t u:Tok}{Q:Value→Shared→Prop}{E:Value→Shared→Prop}(q:Q (.bool c) s):
 wpAny (model C.prog C.wld) A (compareOp op (.int (C.ν a) t) (.int (C.ν b) u)) Q E s:=by
 cases op with
 |Eq=>exact eq_int (by rw[Ph (Lz X.fx h)];exact q)
 |NotEq=>exact ne_int (by rw[bne,Ph (Lz X.fx (Xk h)),Bool.not_not];exact q)
 |Lt=>exact lt_int (by rw[Lw (O6 X.fx h)];exact q)
 |Gt=>exact gt_int (by rw[Lw (p:=_ > _) (O6 X.fx h)];exact q)
 |LtE=>exact le_int (by rw[Jk (O6 X.fx (Xk h)) Int.not_lt.symm];exact q)
 |GtE=>exact ge_int (by rw[Jk (q:=_≥_) (O6 X.fx (Xk h)) Int.not_lt.symm];exact q)
 |_=>exact nn h
omit X in
theorem valueAt_eq{K:Type} [DecidableEq K]{k:K}{x:Value}{r:List (K×Value)}:valueAt ((k,x)::r) k=some x:=by unfold valueAt;rw[List.find?_cons_of_pos (p:=fun kv:K×Value=>decide (kv.1=k)) (decide_eq_true rfl)];rfl
omit X in
theorem V6{K:Type} [DecidableEq K]{k i:K}{x:Value}{r:List (K×Value)}(h:k≠i):valueAt ((k,x)::r) i=valueAt r i:=by unfold valueAt;rw[List.find?_cons_of_neg (by simpa using h)]
theorem Ke{σ:St}{ρ:Rho}{h:Heap}{i:Int}:∀{es:List (D×V)} {kvs:List (Int×Value)} {b:Bool},Zqf es i=some b→IntEnts C σ ρ h es kvs→(valueAt kvs i).isSome=b
 | [],kvs,b,e,v=>by rw[show kvs=[] from v];exact sj e
 |(k,u)::r,kvs,b,e,v=>v.cons_e (M:=fun k kvs=>Zqf ((k,u)::r) i=some b→(valueAt kvs i).isSome=b) (fun k x es' _ _ v2 e=>Za (x:=Zqf r i) e fun c h1 e=>by
  have ih:=Ke h1 v2;rw[← sj e];by_cases hk:k=i
  ·rw[hk,valueAt_eq,Sv];rfl
  ·rw[V6 hk,ih,Bool.eq_false_iff.mpr fun q=>hk (Zu q)];rfl) e
end
section
variable{Z:Zx}(H:ZOk Z)
theorem Room.u{A:Around}{d:Nat}(r:Room A d):A.units + 300 < 9900:=Nat.lt_of_le_of_lt (Nat.add_le_add_right (Nat.le_add_right _ _) _) r.2.2
theorem Room.u64{A:Around}{d:Nat}(r:Room A d):A.units + 64 < cLine:=Nat.lt_of_le_of_lt (Nat.add_le_add_left (by decide) _) r.u
theorem Room.u65{A:Around}{d:Nat}(r:Room A d):A.units + 1 + 64 < cLine:=Nat.lt_of_le_of_lt (Nat.add_le_add_left (m:=300) (by decide:1 + 64≤300) A.units) r.u
theorem Vb{C:Cx}{σ:St}{ρ:Rho}{h:Heap}{x:D}{u:Value}(e:VR C σ ρ h (.dat x) u){P:Prop}(k:∀as,Reads h u (mD C.ν x) as→P):P:=(RdD.reads e).elim k
theorem Lr(H:ZOk Z){op:CmpOp}{x y:D}{b:Bool}{lo:Zd}{σ:St}(h:Zro Z.C.T op x y=some b):Q7 Z lo (compareOp op) (.dat x) (.dat y) σ (.dat (.bool b)) σ:=fun A s ρ u w Q E P vx vy q=>by
 have q:Q (.bool b) s:=q.here P rfl;cases op with
 |Eq=>exact Zl h fun hs h=>Yp hs fun h1 h2=>Vb vx fun as rx=>Vb vy fun bs ry=>eq_dataH rx ry (Qr h1) (Qr h2) P.rm.u64 (by rw[Ov H.X.fx h];exact q)
 |NotEq=>exact Zl h fun hs h=>Yp hs fun h1 h2=>Vb vx fun as rx=>Vb vy fun bs ry=>ne_dataH rx ry (Qr h1) (Qr h2) P.rm.u64 (by rw[Ov H.X.fx (Xk h),Bool.not_not];exact q)
 |NotIn=>
  exact Mf (M:=fun y=>VR Z.C σ ρ s.heap (.dat y) w→_) h (fun ys h vy=>Zl h fun hs h=>Yp hs fun h1 h2=>Vb vx fun as rx=>Vb vy fun bs ry=>by
   have s2:=Qr (ν:=Z.C.ν) h2;refine notIn_tuple_reads ry rx (canLay_of_shaped s2) (canLay_of_shaped (Qr (ν:=Z.C.ν) h1)) ?_ ?_
   ·exact Nat.lt_of_le_of_lt (Nat.add_le_add_left (Nat.le_trans (Nat.min_le_left _ _) (Nat.le_of_succ_le (depth_of_shaped s2))) _) P.rm.u65
   ·rw[Sq H.X.fx (Xk h),Bool.not_not];exact q) vy
 |Is=>
  exact Zej (M:=fun y=>VR Z.C σ ρ s.heap (.dat y) w→_) h (fun h vy=>Zej (M:=fun x=>VR Z.C σ ρ s.heap (.dat x) u→_) h (fun h vx=>by
   rw[show u= .none from vx,show w= .none from vy]
   cases sj h;exact is_none q) vx) vy
 |_=>exact nn h
theorem DictRep.nil_of{K:Type} [DecidableEq K]{prog:Program}{w:World}{kd:PySem.KeyKind prog w K}{h:Heap}{a:Addr}(e:∃o ep,h.get? a=some o∧o.ExactDict∧o.data= .dict #[] ep):h.DictOf kd a []:=e.elim fun o e=>e.elim fun ep e=>⟨o,#[],ep,e.1,e.2.1,e.2.2,fun _ he=>by simp at he,.nil,List.nodup_nil⟩
theorem DictRep.ints{C:Cx}{σ:St}{ρ:Rho}{h:Heap}{a:Addr}{es:List (D×V)}(e:DictRep C σ ρ h a es)(g:∀p r,es=p::r→∃i,p.1= .int i):∃kvs,h.DictOf (intKind C.prog C.wld) a kvs∧IntEnts C σ ρ h es kvs:=by
 cases es with
 |nil=>exact⟨[],nil_of e,rfl⟩
 |cons p r=>
  exact(g p r rfl).elim fun i z=>by
   have e:dk p.1 _ _:=e;rw[z] at e;exact e
theorem Ea{C:Cx}{σ:St}{ρ:Rho}{h:Heap}{n:Nat}{o:O}(r:R C σ ρ h)(h0:C.get σ n=some o)(hd:o≠ .dead):(ρ (.id n) == sysModules)=false:=beq_eq_false_iff_ne.mpr (r.sys (.id n) ⟨_,h0,hd⟩)
theorem I3(H:ZOk Z){op:CmpOp}{x:D}{n:Nat}{b:Bool}{lo:Zd}{σ:St}(h:Zed Z.C.T op x (Zj Z.C.T.old σ n)=some b):Q7 Z lo (compareOp op) (.dat x) (.loc (.id n)) σ (.dat (.bool b)) σ:=fun A s ρ u w Q E P vx vy q=>vy.loc_e (by
 intro _;cases op with
 |In=>
  exact Jo h fun es h0 h=>Vf (M:=fun x=>VR Z.C σ ρ s.heap (.dat x) u→_) h (fun i h vx=>Zl h fun hl h=>vx.int_e fun t=>by
   rw[show Z.C.ν i=i from Zo H.X.v0 hl];refine(DictRep.ints (P.r.rep n _ h0) fun p r e=> ?_).elim fun kvs d=>wpAny_in_of (intKind_is Z.C.prog Z.C.wld i t) (Ea P.r h0 nofun) d.1.mapOf ?_
   ·rw[e] at h;exact Vf (M:=fun d=>∃i,d= .int i) h fun i _=>⟨i,rfl⟩
   ·rw[Ke H.X h d.2];exact q.tok P rfl) vx
 |NotIn=>
  exact Ni h fun ys h0 h=>Za h fun ds h1 h=>Zl h fun hs h=>Yp hs fun hs1 hs2=>by
   obtain⟨items,⟨n',l1⟩,l2⟩:=P.r.rep n _ h0;have s2:=Qr (ν:=Z.C.ν) hs2;refine Vb vx fun as rx=>(RdDs.reads (Ug h1 l2)).elim fun bs ry=>notIn_list_reads (.list l1 rfl rfl ry) rx (canLay_of_shaped s2) (canLay_of_shaped (Qr (ν:=Z.C.ν) hs1)) ?_ ?_
   ·exact Nat.lt_of_le_of_lt (Nat.add_le_add_left (Nat.le_trans (Nat.min_le_left _ _) (Nat.le_of_succ_le (depth_of_shaped s2))) _) P.rm.u65
   ·rw[Sq H.X.fx (Xk h),Bool.not_not];exact q.here P rfl
 |_=>exact nn h)
theorem Zee(H:ZOk Z)(op:CmpOp):Zdj Z op:=fun lo x y b σ h=>by
 cases x with
 |dat x=>
  cases y with
  |dat y=>
   cases x with
   |int a=>
    cases y with
    |int c=>exact fun A s ρ u w Q E P vx vy q=>vx.int_e fun t=>vy.int_e fun t'=>Dl H.X h (q.here P rfl)
    |_=>exact Lr H h
   |_=>exact Lr H h
  |loc l=>exact Zb3 (M:=fun l=>Q7 Z lo (compareOp op) _ (.loc l) σ _ σ) h fun n h=>I3 H h
 |loc l=>
  exact Rh (M:=fun y=>Q7 Z lo (compareOp op) _ y σ _ σ) h fun d h=>Zej (M:=fun d=>Q7 Z lo (compareOp op) _ (.dat d) σ _ σ) h fun h=>Zl h fun ho h A s ρ u w Q E P vx vy q=>vx.loc_e fun _=>by
   rw[show w= .none from vy];cases op with
   |Is=>cases sj h;exact is_none (q.here P rfl)
   |_=>exact nf ho
end
theorem Ue:fillsNumberSlot (.type "tuple") "mul"=pure false:=
 PySem.fillsNumberSlot_seq (id:="tuple.__mul__") (r:=some (.builtin "tuple.__rmul__")) F.slot_tuple_mul.lookup (by decide +kernel) F.slot_tuple_rmul.lookup (by decide +kernel)
theorem Qp:seqRepeat? (.type "tuple")=pure (some (.builtin "tuple.__mul__")):=by
 unfold seqRepeat?;rw[PySem.seqSlot_of (T:="tuple") (name:="__mul__") (id:="tuple.__mul__") F.slot_tuple_mul.lookup (by decide +kernel),PySem.seqSlot_of (T:="tuple") (name:="__rmul__") (id:="tuple.__rmul__") F.slot_tuple_rmul.lookup (by decide +kernel)];rfl
theorem Tx(a:Int)(t:Tok)(l:Addr)(items:Array Value)(n:Nat)(dd:Option Addr)(sl:Array (Option Value)):
 Meets (Builtin.«int.__rmul__» ⟨[.int a t,.ref l],[]⟩) (fun _ R s=>s.heap.get? l=some {cls:= .type "tuple",dict:=dd,data:= .seq items n,slots:=sl}∧R (.ok (.ret Value.notImplemented)) s):=
 .of_wp fun prog w A R s h=>by obtain⟨hp,g,d,tk,os⟩:=s;obtain⟨hl,h⟩:=h;wp_walk using wpAny_loadPart' hl;exact⟨_,rfl,h⟩
theorem M4(l:Addr)(items:Array Value)(n:Nat)(dd:Option Addr)(sl:Array (Option Value))(x:Int)(u:Tok)(hx:decide ((decide (x < -2 ^ 63) || decide (x≥2 ^ 63))=true)=false)(hc:decide ((items.isEmpty || x == 1)=true)=true):
 Meets (Builtin.«tuple.__mul__» ⟨[.ref l,.int x u],[]⟩) (fun _ R s=>s.heap.get? l=some {cls:= .type "tuple",dict:=dd,data:= .seq items n,slots:=sl}∧R (.ok (.ret (Value.ref l))) s):=
 .of_wp fun prog w A R s h=>by obtain⟨hp,g,d,tk,os⟩:=s;obtain⟨hl,h⟩:=h;have f1:=AutoSeq1.idx_int;have f2:=AutoSeq1.sub_tuple_tuple;wp_walk using wpAny_loadPart' hl,wpAny_ite_false hx,wpAny_ite_true hc;exact⟨_,rfl,h⟩
theorem M5(l:Addr)(items:Array Value)(n:Nat)(dd:Option Addr)(sl:Array (Option Value))(x:Int)(u:Tok)(hx:decide ((decide (x < -2 ^ 63) || decide (x≥2 ^ 63))=true)=false)(hc:decide ((items.isEmpty || x == 1)=true)=false)(hd:decide ((decide (x≤0) || items.isEmpty)=true)=true):
 Meets (Builtin.«tuple.__mul__» ⟨[.ref l,.int x u],[]⟩) (fun _ R s=>s.heap.get? l=some {cls:= .type "tuple",dict:=dd,data:= .seq items n,slots:=sl}∧R (.ok (.ret (Value.ref s.heap.objs.size))) {s with heap:=s.heap.push {cls:=Value.type "tuple",data:=Data.seq #[]},toks:=s.toks}):=
 .of_wp fun prog w A R s h=>by obtain⟨hp,g,d,tk,os⟩:=s;obtain⟨hl,h⟩:=h;have f1:=AutoSeq1.idx_int;have f2:=AutoSeq1.sub_tuple_tuple;wp_walk using wpAny_loadPart' hl,wpAny_ite_false hx,wpAny_ite_false hc,wpAny_ite_true hd;exact⟨_,rfl,h⟩
theorem M6(l:Addr)(items:Array Value)(n:Nat)(dd:Option Addr)(sl:Array (Option Value))(x:Int)(u:Tok)(hx:decide ((decide (x < -2 ^ 63) || decide (x≥2 ^ 63))=true)=false)(hc:decide ((items.isEmpty || x == 1)=true)=false)(hd:decide ((decide (x≤0) || items.isEmpty)=true)=false)
 (hm:decide ((items.size:Int) * x > (2 ^ 63 - 1) / 8)=false) (ht:decide (Builtin.Tuple.tupleTooMany (items.size * x)=true)=false) (hz:(List.foldl (fun x1 x2=>x1++x2) #[] (List.replicate x.toNat items)).size≤sizeLine):
 Meets (Builtin.«tuple.__mul__» ⟨[.ref l,.int x u],[]⟩) (fun _ R s=>s.heap.get? l=some {cls:= .type "tuple",dict:=dd,data:= .seq items n,slots:=sl}∧R (.ok (.ret (Value.ref s.heap.objs.size))) {s with heap:=s.heap.push {cls:=Value.type "tuple",data:=Data.seq (List.foldl (fun x1 x2=>x1++x2) #[] (List.replicate x.toNat items))},toks:=s.toks}):=
 .of_wp fun prog w A R s h=>by
  obtain⟨hp,g,d,tk,os⟩:=s;obtain⟨hl,h⟩:=h;have f1:=AutoSeq1.idx_int;have f2:=AutoSeq1.sub_tuple_tuple
  wp_walk using wpAny_loadPart' hl,wpAny_ite_false hx,wpAny_ite_false hc,wpAny_ite_false hd,wpAny_ite_false hm,wpAny_ite_false ht,wpAny_ite_false (decide_eq_false (Nat.not_lt.mpr hz));exact⟨_,rfl,h⟩
section
variable{C:Cx}{d:Nat}{mg mb:Str→Option Value}(X:Vr C mg mb)
theorem Zh3{a b:Int}(ha:small a=true):IntMulOk a b:= .of_left (intBits_le_64 (Int.le_trans (by decide) (Xw ha).1) (Int.lt_of_lt_of_le (Xw ha).2 (by decide)))
theorem Ztb{x y:Int}(h:y.natAbs < 4611686018427387905):Builtin.divisionGoesByPylong x y=false:=by
 refine PyProof.noPylong_of_log2 ?_;by_cases hy:y.natAbs=0
 ·rw[hy];decide
 ·exact(Nat.log2_lt hy).mpr (Nat.lt_of_lt_of_le h (Nat.le_trans (by decide:4611686018427387905≤2 ^ 100) (Nat.pow_le_pow_right (by decide) (by decide))))
theorem J9{b:Int}(h:small b=true):b.natAbs < 4611686018427387905:=by have:=Xw h;omega
theorem Zf3{b:Int}(h:eqB b 0=false):b≠0:=Pf h
theorem Zh0{i c:Int}(h:lz i=some c){P:Prop}(k:Yo i=true→i=c→P):P:=Zl h fun h e=>k h (sj e)
include X in
theorem E8{op:Operator}{a b c:Int}(h:Zay C.T.fx op a b=some c){A:Around}{s:Shared}{t u:Tok}{Q:Value→Shared→Prop}{E:Value→Shared→Prop}(q:Q (.int (C.ν c) s.toks) {s with toks:=s.toks + 1}):
 wpAny (model C.prog C.wld) A (binaryOp op (.int (C.ν a) t) (.int (C.ν b) u)) Q E s:=by
 have sm:∀{i:Int},small i=true→C.ν i=i:=fun h=>Rg X.v0 h;have lt:∀{i:Int},Yo i=true→C.ν i=i:=fun h=>Zo X.v0 h;cases op with
 |Add=>exact add_int (by rw[← show C.ν c=C.ν a + C.ν b from Sp X.v0 h];exact q)
 |Sub=>exact sub_int (by rw[← show C.ν c=C.ν a - C.ν b from A6 X.v0 h];exact q)
 |Mult=>
  refine Vc h (fun h1 h=>Yp h1 fun h1 h2=>Zh0 h fun h3 e=> ?_) fun _ h=>(Uw X.fx h).elim;rw[← e,lt h3] at q;rw[sm h1,sm h2];exact mul_int q (Zh3 h1)
 |FloorDiv=>
  refine Vc h (fun h1 h=>Yp h1 fun h1 h2=>Vc h (fun _ h=>nn h) fun h0 h=>Zh0 h fun h3 e=> ?_) fun _ h=> ?_
  ·rw[← e,lt h3] at q
   rw[sm h1,sm h2];exact floordiv_int (hp:= .inl (Ztb (J9 h2))) (Zf3 h0) q
  ·have z:=Uw X.fx h
   exact floordiv_int (hp:= .inl (Ztb z.2.1)) z.1 (by rw[← show C.ν c=_ from z.2.2];exact q)
 |Mod=>
  refine Vc h (fun h1 h=>Yp h1 fun h1 h2=>Vc h (fun _ h=>nn h) fun h0 h=>Zh0 h fun h3 e=> ?_) fun _ h=> ?_
  ·rw[← e,lt h3] at q
   rw[sm h1,sm h2];exact mod_int (Zf3 h0) q
  ·have z:=Uw X.fx h
   exact mod_int z.1 (by rw[← show C.ν c=_ from z.2];exact q)
 |Pow=>
  refine Zl h fun h1 h=> ?_;cases b with
  |negSucc n=>exact nn h
  |ofNat n=>
   refine Zl h fun h2 h=>Yp h2 fun h3 h4=>Zh0 h fun h5 e=> ?_;rw[← e,lt h5] at q;rw[sm h1,sm (i:=Int.ofNat n) (Wt (Nat.lt_trans (Zz h3) (by decide)))];exact pow_int_small (Int.natCast_nonneg n) (Int.ofNat_le.mpr (Nat.le_trans (Nat.le_of_lt (Zz h3)) (by decide:65≤1000000))) (by have:=Zz h3;have:=Zz h4;simp only[Int.ofNat_eq_natCast] at *;omega) q
 |BitAnd=>
  refine Zl h fun h1 h=>Yp h1 fun h1 h2=>Zh0 h fun h3 e=> ?_;rw[← e,lt h3] at q;rw[sm h1,sm h2];exact and_int q
 |_=>exact nn h
theorem E4{A:Around}{s:Shared}{E:Value→Shared→Prop}{t b:Addr}{o o2:Obj}{vs ws:Array Value}{n n2:Nat}{Q:Value→Shared→Prop}(ho:s.heap.get? t=some o)(hc:o.cls= .type "tuple")(hd:o.data= .seq vs n)
 (ho2:s.heap.get? b=some o2) (hc2:o2.cls= .type "tuple") (hd2:o2.data= .seq ws n2) (h0:vs.toList=[]→Q (.ref b) s) (h1:ws.toList=[]→Q (.ref t) s)
 (h2:Q (.ref s.heap.objs.size) {s with heap:=s.heap.push {cls:= .type "tuple",data:= .seq (vs++ws)}}) (hsz:vs.size + ws.size≤sizeLine):
 wpAny (model C.prog C.wld) A (binaryOp .Add (.ref t) (.ref b)) Q E s:=by
 obtain⟨cls,dd,data,sl⟩:=o;obtain⟨cls2,dd2,data2,sl2⟩:=o2;simp only at hc hd hc2 hd2;subst hc hd hc2 hd2;by_cases hv:vs.isEmpty=true
 ·exact concat_meets ⟨_,ho,rfl⟩ ⟨_,ho2,rfl⟩ noFill_tuple_add seq_tuple_add PySem.F.slot_tuple_add PySem.F.entry_tuple_add (PySem.F.args_tuple_add_2 _ _)
   (tuple_addW0 t b vs ws n n2 dd dd2 sl sl2 hv) ⟨ho,ho2,h0 (by simpa using hv)⟩
 ·by_cases hw:ws.isEmpty=true
  ·exact concat_meets ⟨_,ho,rfl⟩ ⟨_,ho2,rfl⟩ noFill_tuple_add seq_tuple_add PySem.F.slot_tuple_add PySem.F.entry_tuple_add (PySem.F.args_tuple_add_2 _ _)
    (tuple_addW1 t b vs ws n n2 dd dd2 sl sl2 hv hw) ⟨ho,ho2,h1 (by simpa using hw)⟩
  ·exact concat_meets ⟨_,ho,rfl⟩ ⟨_,ho2,rfl⟩ noFill_tuple_add seq_tuple_add PySem.F.slot_tuple_add PySem.F.entry_tuple_add (PySem.F.args_tuple_add_2 _ _)
    (tuple_addW2 t b vs ws n n2 dd dd2 sl sl2 hv hw hsz) ⟨ho,ho2,h2⟩
theorem Ww{n:Int}{k:Nat}(h:leN n k=true):0≤n∧n≤k:=by
 cases n with
 |ofNat m=>exact⟨Int.natCast_nonneg m,Int.ofNat_le.mpr (Nat.le_of_ble_eq_true h)⟩
 |negSucc m=>exact nf h
theorem Vy{n:Int}{k:Nat}(h:leN n k=true)(hk:k≤100000):Yo n=true:=by
 cases n with
 |ofNat m=>exact Wt (Nat.lt_of_le_of_lt (Nat.le_trans (Nat.le_of_ble_eq_true h) hk) (by decide))
 |negSucc m=>exact nf h
theorem Uy(items:Array Value)(k:Nat):(List.foldl (fun x1 x2=>x1++x2) #[] (List.replicate k items)).toList=(List.replicate k items.toList).flatten:=by
 have:∀(k:Nat) (acc:Array Value),(List.foldl (fun x1 x2=>x1++x2) acc (List.replicate k items)).toList=acc.toList++(List.replicate k items.toList).flatten:=by
  intro k;induction k with
  |zero=>intro acc;exact(List.append_nil _).symm
  |succ k ih=>intro acc;rw[List.replicate_succ,List.foldl_cons,ih,Array.toList_append,List.append_assoc];rfl
 rw[this];rfl
theorem VRs.rep{σ:St}{ρ:Rho}{h:Heap}{v:V}{x:Value}(e:VR C σ ρ h v x):∀k:Nat,VRs C σ ρ h (List.replicate k [v]).flatten (List.replicate k [x]).flatten
 |0=>rfl
 |k + 1=>⟨x,(List.replicate k [x]).flatten,rfl,e,VRs.rep e k⟩
theorem Bo{A:Around}{s:Shared}{E:Value→Shared→Prop}{l:Addr}{items:Array Value}{k:Nat}{x:Int}{u:Tok}{Q:Value→Shared→Prop}(hl:IsL s.heap l items k)
 (h0:0≤x) (h1:x≤1000) (hsz:items.size=1)
 (h:Q (.ref s.heap.objs.size) {s with heap:=s.heap.push {cls:= .type "list",data:= .seq (List.foldl (fun x1 x2=>x1++x2) #[] (List.replicate x.toNat items))}}):
 wpAny (model C.prog C.wld) A (binaryOp .Mult (.ref l) (.int x u)) Q E s:=
 wpAny_binaryOp_repeat_ref (T:="list") (U:="int") (by decide) ⟨_,hl,rfl⟩ (fun s'=>typeIs_int s' x u) noFill_list_mul F.fills_int_mul F.slot_int_rmul repeat_list F.slot_int_index.lookup
  (call_meets F.slot_int_rmul (typeIs_int s x u) F.entry_int_rmul (F.args_int_rmul_2 _ _) (int___rmul___int_list x u l items k)
    ⟨hl,rfl,⟨_,hl,rfl⟩,call_meets F.slot_list_mul ⟨_,hl,rfl⟩ F.entry_list_mul (F.args_list_mul_2 _ _)
      (AutoListH.list___mul___list_int_3 l items k x u (by simp[Builtin.List.listFitsIndex];omega) (by rw[hsz];omega) (by simp[Builtin.List.listTooLong,sizeLine,hsz];omega))
      ⟨hl,by rw[if_neg (by rw[Array.isEmpty_iff_size_eq_zero,hsz];exact Nat.succ_ne_self 0)];exact h⟩⟩)
theorem H4{A:Around}{s:Shared}{E:Value→Shared→Prop}{l:Addr}{o:Obj}{items:Array Value}{k:Nat}{x:Int}{u:Tok}{Q:Value→Shared→Prop}(ho:s.heap.get? l=some o)(hc:o.cls= .type "tuple")(hd:o.data= .seq items k)
 (h0:0≤x) (hx:x≤1000) (hz:items.size≤100) (q1:(items.isEmpty || x == 1)=true→Q (.ref l) s)
 (q2:(items.isEmpty || x == 1)=false→Q (.ref s.heap.objs.size) {s with heap:=s.heap.push {cls:= .type "tuple",data:= .seq (List.foldl (fun x1 x2=>x1++x2) #[] (List.replicate x.toNat items))}}):
 wpAny (model C.prog C.wld) A (binaryOp .Mult (.ref l) (.int x u)) Q E s:=by
 obtain⟨cls,dd,data,sl⟩:=o;simp only at hc hd;subst hc hd;have hx1:decide ((decide (x < -2 ^ 63) || decide (x≥2 ^ 63))=true)=false:=by simp;omega
 refine wpAny_binaryOp_repeat_ref (T:="tuple") (U:="int") (by decide) ⟨_,ho,rfl⟩ (fun s'=>typeIs_int s' x u) Ue F.fills_int_mul F.slot_int_rmul Qp F.slot_int_index.lookup
  (call_meets F.slot_int_rmul (typeIs_int s x u) F.entry_int_rmul (F.args_int_rmul_2 _ _) (Tx x u l items k dd sl)
    ⟨ho,rfl,⟨_,ho,rfl⟩,?_⟩)
 by_cases h1:(items.isEmpty || x == 1)=true
 ·exact call_meets F.slot_tuple_mul ⟨_,ho,rfl⟩ F.entry_tuple_mul (F.args_tuple_mul_2 _ _) (M4 l items k dd sl x u hx1 (decide_eq_true h1)) ⟨ho,q1 h1⟩
 ·have h1':=Bool.eq_false_iff.mpr h1
  by_cases h2:(decide (x≤0) || items.isEmpty)=true
  ·refine call_meets F.slot_tuple_mul ⟨_,ho,rfl⟩ F.entry_tuple_mul (F.args_tuple_mul_2 _ _) (M5 l items k dd sl x u hx1 (decide_eq_false h1) (decide_eq_true h2)) ⟨ho,?_⟩
   have e:x=0:=((Bool.or_eq_true _ _).mp h2).elim (fun h=>Int.le_antisymm (of_decide_eq_true h) h0) fun h=>(h1 (by rw[h];rfl)).elim;have:=q2 h1';rw[e] at this;exact this
  ·have sz:(List.foldl (fun x1 x2=>x1++x2) #[] (List.replicate x.toNat items)).size=x.toNat * items.size:=by
    rw[← Array.length_toList,Uy];induction x.toNat with
    |zero=>exact(Nat.zero_mul _).symm
    |succ n ih=>rw[List.replicate_succ,List.flatten_cons,List.length_append,ih,Nat.succ_mul,Array.length_toList,Nat.add_comm]
   have b1:x.toNat * items.size≤1000 * 100:=Nat.mul_le_mul (Int.toNat_le.mpr hx) hz;have b2:(items.size:Int) * x≤100 * 1000:=Int.mul_le_mul (Int.ofNat_le.mpr hz) hx h0 (by decide);refine call_meets F.slot_tuple_mul ⟨_,ho,rfl⟩ F.entry_tuple_mul (F.args_tuple_mul_2 _ _) (M6 l items k dd sl x u hx1 (decide_eq_false h1) (decide_eq_false h2) (decide_eq_false (Int.not_lt.mpr (Int.le_trans b2 (by decide)))) (decide_eq_false ?_) (by rw[sz,sizeLine_eq];exact Nat.le_trans b1 (by decide))) ⟨ho,q2 h1'⟩;unfold Builtin.Tuple.tupleTooMany;rw[sizeLine_eq];exact fun z=>absurd (of_decide_eq_true z) (Int.not_lt.mpr (Int.le_trans b2 (by decide)))
theorem RdDs.rep{h:Heap}{P:Addr→Prop}{l:List D}{vs:List Value}(e:RdDs h P l vs):∀k:Nat,RdDs h P (List.replicate k l).flatten (List.replicate k vs).flatten
 |0=>rfl
 |k + 1=>by rw[List.replicate_succ,List.replicate_succ,List.flatten_cons,List.flatten_cons];exact e.append (RdDs.rep e k)
theorem O7(ν:Int→Int)(l:List D):∀k:Nat,mDs ν (List.replicate k l).flatten=(List.replicate k (mDs ν l)).flatten
 |0=>rfl
 |k + 1=>by rw[List.replicate_succ,List.replicate_succ,List.flatten_cons,List.flatten_cons,Xi,O7 ν l k]
end
section
variable{Z:Zx}(H:ZOk Z){lo:Zd}{σ σ':St}{v:V}
@[elab_as_elim] theorem Pi {op:Operator} (h:Cu op=true) {M:Operator→Prop} (k:M .Add):M op:=by
  cases op <;> first |exact k |exact nf h
@[elab_as_elim] theorem Kj {op:Operator} (h:Cy op=true) {M:Operator→Prop} (k:M .Mult):M op:=by
  cases op <;> first |exact k |exact nf h
theorem Zp3{α β:Type}{x y:List α}{u w:Array β}(h:Ws (x.length + y.length)=true)(a:u.size=x.length)(b:w.size=y.length):u.size + w.size≤sizeLine:=by rw[a,b];exact Wj h
theorem Gk{n:Int}{x:List D}(h:x=[]∨n=1):rep n x=x:=by
 rcases h with rfl |rfl
 ·exact List.flatten_replicate_nil
 ·exact List.append_nil x
@[elab_as_elim] theorem By {x:List D} (h:Kk x=true) {M:List D→Prop} (k:M [.none]):M x:=by
  cases x with
  |nil=>exact nf h
  |cons d r=>cases r with
   |nil=>cases d <;> first |exact k |exact nf h
   |cons _ _=>cases d <;> exact nf h
theorem E9(H:ZOk Z){op:Operator}{x:List D}{b:D}(h:Ya0 op x b σ=some (v,σ')):Q7 Z lo (binaryOp op) (.dat (.list x)) (.dat b) σ v σ':=by
 cases b with
 |list y=>
  exact Zl h fun hs h=>Yp hs fun ha hz=>Z0 h fun A s ρ u w Q E p vx vy q=>vx.list_e fun a vs n1 pa la ra ea=>vy.list_e fun b ws n2 pb lb rb eb=>Pi ha
   (P.add_list la lb (by have:=q.list (xs:=vs.toList++ws.toList) p (by rw[Xi];exact ra.append rb);rw[← Array.toList_append] at this;exact this) (Zp3 hz ea eb))
 |int n=>
  exact Zl h fun hs h=>Xy hs fun ha hn hx=>By (M:=fun x=>Q7 Z lo (binaryOp op) (.dat (.list x)) _ σ v σ') hx (Kj ha (by
   cases sj h;intro A s ρ u w Q E p vx vy q;refine vx.list_e fun a vs n1 pa la ra ea=>vy.int_e fun t2=> ?_;rw[show Z.C.ν n=n from Zo H.X.v0 (Vy hn (by decide))];refine Bo la (Ww hn).1 (Ww hn).2 ea (q.new (o:= .list (rep n [.dat .none])) p nofun fun σ' ρ' e st=>⟨_,Jd (o:=default) e rfl,?_⟩);rw[Uy];refine ra.cons_e (M:=fun l=>VRs _ σ' ρ' _ (rep n [.dat .none]) (List.replicate n.toNat l).flatten) fun z zs z1 z2=> ?_;rw[show zs=[] from z2,show z= .none from z1]
   exact VRs.rep (v:= .dat .none) (x:= .none) rfl n.toNat))
 |_=>exact nn h
theorem Da(H:ZOk Z){op:Operator}{x:List D}{b:D}(h:Ya1 op x b σ=some (v,σ')):Q7 Z lo (binaryOp op) (.dat (.tuple x)) (.dat b) σ v σ':=by
 cases b with
 |tuple y=>
  exact Zl h fun hs h=>Yp hs fun ha hz=>Z0 h fun A s ρ u w Q E P vx vy q=>Pi ha (by
   obtain⟨a,o,vs,n1,rfl,pa,la,ca,da,ra⟩:=id vx;obtain⟨b,o2,ws,n2,rfl,pb,lb,cb,db,rb⟩:=id vy;have ea:=ra.len;have eb:=rb.len;rw[Y3] at ea eb;refine E4 la ca da lb cb db (fun e=>q.here P ?_) (fun e=>q.here P ?_) (by have:=q.tup (xs:=vs.toList++ws.toList) P (by rw[Xi];exact ra.append rb);rw[← Array.toList_append] at this;exact this) (Zp3 hz (Array.length_toList.symm.trans ea) (Array.length_toList.symm.trans eb))
   ·rw[e] at ea;rw[List.length_eq_zero_iff.mp ea.symm];exact vy
   ·rw[e] at eb;rw[List.length_eq_zero_iff.mp eb.symm,List.append_nil];exact vx)
 |int n=>
  exact Zl h fun hs h=>Xy hs fun ha hn hz=>Z0 h fun A s ρ u w Q E P vx vy q=>Kj ha (by
   obtain⟨a,o,vs,n1,rfl,pa,la,ca,da,ra⟩:=id vx;refine vy.int_e fun t2=> ?_;have ea:=ra.len;rw[Y3] at ea;rw[show Z.C.ν n=n from Zo H.X.v0 (Vy hn (by decide))];refine H4 la ca da (Ww hn).1 (Ww hn).2 (by rw[← Array.length_toList,ea];exact Nat.le_of_ble_eq_true hz) (fun h=>q.here P ?_) fun _=> ?_
   ·rw[Gk]
    ·exact vx
    ·refine((Bool.or_eq_true _ _).mp h).imp (fun h=>List.length_eq_zero_iff.mp (ea.symm.trans ?_)) eq_of_beq
     rw[Array.length_toList];exact Array.isEmpty_iff_size_eq_zero.mp h
   ·have:=q.tup (xs:=(List.replicate n.toNat vs.toList).flatten) P (by unfold rep;rw[O7];exact ra.rep _)
    rw[← Uy,Array.toArray_toList] at this
    exact this)
 |_=>exact nn h
theorem Zdu(H:ZOk Z)(op:Operator):Zdh Z op:=fun lo x y v σ σ' h=>Rh (M:=fun x=>Q7 Z lo (binaryOp op) x y σ v σ') h fun x h=>Rh (M:=fun y=>Q7 Z lo (binaryOp op) _ y σ v σ') h fun y h=>by
 cases x with
 |int a=>exact Vf (M:=fun y=>Q7 Z lo (binaryOp op) _ (.dat y) σ v σ') h fun b h=>Za h fun i hi h=>Z0 h fun A s ρ u w Q E P vx vy q=>vx.int_e fun t1=>vy.int_e fun t2=>E8 H.X hi (q.tok P ⟨_,rfl⟩)
 |list a=>exact E9 H h
 |tuple a=>exact Da H h
 |str a=>
  exact Zrq (M:=fun y=>Q7 Z lo (binaryOp op) _ (.dat y) σ v σ') h fun b h=>Zl h fun hs h=>Yp hs fun ha hz=>Z0 h fun A s ρ u w Q E P vx vy q=>vx.str_e fun t1=>vy.str_e fun t2=>Pi ha
   (PyProof.Rows.add_str (fun t' tk=>q.tok P ⟨t',rfl⟩) (Wj hz))
 |_=>exact nn h
end
section
variable{Z:Zx}{C:Cx}{σ:St}{ρ:Rho}{h:Heap}
theorem Rb:∀{l:List Nat} {a k p:Nat},Jy l a k=some p→k≤p∧l[p - k]? =some a∧∀i,i < p - k→l[i]?≠some a
 | [],a,k,p,h=>nn h
 |x::r,a,k,p,h=>Vc (x:=some k) (y:=Jy r a (k + 1)) h (fun e h=>by
   cases sj h;rw[Nat.sub_self]
   exact⟨Nat.le_refl _,congrArg some (Nat.eq_of_beq_eq_true e),fun i hi=>(Nat.not_lt_zero i hi).elim⟩) fun e h=>by
   have z:=Rb h;have e1:p - k=(p - (k + 1)) + 1:=(Nat.succ_pred_eq_of_pos (Nat.sub_pos_of_lt z.1)).symm;rw[e1];refine⟨Nat.le_of_succ_le z.1,z.2.1,fun i hi=> ?_⟩;cases i with
   |zero=>intro q;cases sj q;rw[Nat.beq_refl] at e;exact nf e.symm
   |succ i=>exact z.2.2 i (Nat.lt_of_succ_lt_succ hi)
theorem O2{n:Str}{t:Tok}:(Value.str n t).isStr n=true:=by simp[Value.isStr]
theorem Sz{m n:Str}{t:Tok}(h:m≠n):¬(Value.str m t).isStr n=true:=by simpa [Value.isStr] using h
theorem Rp{nm:Str}{v:V}{a:Nat}(h2:C.nm a=nm):∀{vs:List V} {as:List Nat} {es:List DictEntry} {p:Nat},Atts C σ ρ h as vs es→as[p]? =some a→
 (∀i b,i < p→as[i]? =some b→C.nm b≠nm)→vs[p]? =some v→∃e,es.find? (fun e=>e.key.isStr nm)=some e∧VR C σ ρ h v e.val
 | [],as,es,p,A,h1,h3,h4=>nn h4
 |u::vs,as,es,p,A,h1,h3,h4=>A.cons_e (M:=fun as es=>as[p]? =some a→(∀i b,i < p→as[i]? =some b→C.nm b≠nm)→∃e,es.find? (fun e=>e.key.isStr nm)=some e∧VR C σ ρ h v e.val) (fun x as e es' tk k1 k2 k3 h1 h3=>by
   cases p with
   |zero=>exact⟨e,List.find?_cons_of_pos (by rw[k1,← h2,sj h1];exact O2),sj h4 ▸ k2⟩
   |succ p=>
    rw[List.find?_cons_of_neg (by rw[k1];exact Sz (h3 0 x (Nat.succ_pos _) rfl))]
    exact Rp h2 (p:=p) k3 h1 (fun i b hi hb=>h3 (i + 1) b (Nat.succ_lt_succ hi) hb) h4) h1 h3
theorem Yl{env:Env}{o:Expr}{attr:Str}(h:Y5 o=true)(whole:Sem Value):attributeBase o attr env whole=whole:=by
 cases o with
 |Call f args kw p=>exact nf h
 |_=>rfl
theorem Jx{v:V}{x:Value}(e:VR C σ ρ h v x){M:Value→Prop}(k0:M .none)(k1:∀b,M (.bool b))(k2:∀i t,M (.int i t))(k3:∀i t,M (.str i t))(k4:∀a,M (.ref a)):M x:=by
 cases v with
 |loc l=>exact e.loc_e fun _=>k4 _
 |dat d=>
  cases d with
  |none=>rw[show x= .none from e];exact k0
  |bool b=>exact e.bool_e (k1 _)
  |int i=>exact e.int_e fun t=>k2 _ t
  |str i=>exact e.str_e fun t=>k3 _ t
  |list xs=>exact e.list_e fun a _ _ _ _ _ _=>k4 a
  |tuple xs=>exact e.tup_e fun a _ _ _ _ _ _ _ _ _=>k4 a
  |dict _=>exact False.elim e
theorem Zok(H:ZOk Z){e:Clo}{x:Expr}{a:Nat}{n:Str}{p:Pos}(he:S2 Z e x)(hn:Zs (Z.t.an a) n=true)(hb:Y5 x=true):S2 Z (Ha Z.C.T e a) (.Attribute x n p):= .of (fun lo σ v σ' ev=>Zax ev fun n' σ1 h1 ev=>Td ev fun c vs h2 ev=>Za ev fun pp h3 ev=>Za ev fun v' h4 ev=>Z0 ev fun A s ρ Q E P q=>
 Attribute_any_ (he.s lo σ _ σ1 h1 A s ρ _ _ P fun ρ1 s1 y P1 k1 v1=>v1.loc_e (by
  intro _;have o2:Z.C.nm a=n:=by rw[← strB_iff.mp hn,H.N.an]
  obtain⟨i1,es,ep,i2,i3⟩:=P1.r.rep n' _ h2;have pz:=Rb h3;rw[Nat.sub_zero] at pz;have hc:Z.C.T.attrs c≠[]:=fun z=>by rw[z] at pz;exact nn pz.2.1
  have K:=H.X.cls c (H.X.att c hc);have ma:a∈Z.C.T.attrs c:=List.mem_of_getElem? pz.2.1;obtain⟨en,f1,f2⟩:=Rp o2 i3 pz.2.1 (fun i b hi hb z=>pz.2.2 i hi (K.inj b (List.mem_of_getElem? hb) a ma (z.trans o2.symm) ▸ hb)) h4;obtain⟨cd,c1,c2⟩:=K.cd;have I:InstAt s1.heap (ρ1 (.id n')) _ (Z.C.cl c) (some _):=⟨i1,rfl,rfl,i2⟩;have hf:findObj Z.C.K (Z.C.cl c) (some (⟨.type "dict",none,.dict es ep,#[]⟩:Obj)) n=some (.value en.val):=by
   have look:lookIn n (⟨.type "dict",none,.dict es ep,#[]⟩:Obj)=some (some en.val):=by
    unfold lookIn;dsimp only;rw[f1]
   unfold findObj;rw[c1];simp only[Option.bind_some,o2 ▸ K.no a ma];unfold W.ownOf;rw[c2,if_pos rfl];dsimp only;rw[look];rfl
  exact get_value P1.r.fr I K.ga hf (Jx (M:=fun x=>handedIn x=true) f2 rfl (fun _=>rfl) (fun _ _=>rfl) (fun _ _=>rfl) fun _=>rfl) ((q.after k1).tok P1 f2))) (by rw[arm_eval_Attribute,Yl hb])) rfl
theorem Xa{α:Type}{l:List α}{i:Int}{x:α}(h:idx l i=some x):0≤i∧l[i.toNat]? =some x:=by
 cases i with
 |ofNat n=>exact⟨Int.natCast_nonneg n,h⟩
 |negSucc n=>exact nn h
theorem VRs.get{v:V}:∀{i:Nat} {l:List V} {vs:List Value},VRs C σ ρ h l vs→l[i]? =some v→∃x,vs[i]? =some x∧VR C σ ρ h v x
 |_,[],vs,e,hd=>nn hd
 |0,x::r,vs,e,hd=>e.cons_e fun y vs' h1 h2=>⟨y,rfl,sj hd ▸ h1⟩
 |i + 1,x::r,vs,e,hd=>e.cons_e fun y vs' h1 h2=>VRs.get (i:=i) h2 hd
theorem Nums.cons_e{ν:Int→Int}{i:Int}{r:List Int}{vs:List Value}(e:Nums ν (i::r) vs){M:List Value→Prop}(k:∀t vs',Nums ν r vs'→M (.int (ν i) t::vs')):M vs:=by
 obtain⟨vs',t,rfl,h⟩:=e;exact k t vs' h
theorem NumEnts.cons_e{ν:Int→Int}{k v:Int}{r:List (Int×Int)}{es:List (Int×Value)}(e:NumEnts ν ((k,v)::r) es){M:List (Int×Value)→Prop}(f:∀t es',Yo k=true→NumEnts ν r es'→M ((k,.int (ν v) t)::es')):M es:=by
 obtain⟨t,es',rfl,h1,h2⟩:=e;exact f t es' h1 h2
theorem Nums.get{ν:Int→Int}{v:Int}:∀{i:Nat} {l:List Int} {vs:List Value},Nums ν l vs→l[i]? =some v→∃t,vs[i]? =some (.int (ν v) t)
 |_,[],vs,e,hd=>nn hd
 |0,x::r,vs,e,hd=>Nums.cons_e (M:=fun vs=>∃t,vs[0]? =some (.int (ν v) t)) e fun t vs' h=>⟨t,sj hd ▸ rfl⟩
 |i + 1,x::r,vs,e,hd=>Nums.cons_e (M:=fun vs=>∃t,vs[i + 1]? =some (.int (ν v) t)) e fun t vs' h=>Nums.get (i:=i) h hd
theorem NumEnts.get{ν:Int→Int}{i v:Int}:∀{l:List (Int×Int)} {kvs:List (Int×Value)},NumEnts ν l kvs→Zc l i=some v→Yo i=true∧∃t,valueAt kvs i=some (.int (ν v) t)
 | [],kvs,e,h=>nn h
 |(k,u)::r,kvs,e,h=>NumEnts.cons_e (M:=fun kvs=>Yo i=true∧∃t,valueAt kvs i=some (.int (ν v) t)) e fun t es' h1 h2=>Vc (x:=some u) (y:=Zc r i) h
    (fun e h=>Zu e ▸ ⟨h1,t,valueAt_eq.trans (by rw[sj h])⟩) fun e h=>by
    rw[V6 (Pf e)];exact NumEnts.get h2 h
theorem U3{k:D}{i:Int}{b:Bool}(h:W8 k (.int i)=some b){M:D→Prop}(f:∀k,eqB k i=b→M (.int k)):M k:=by
 cases k with
 |int k=>exact f k (sj h)
 |_=>exact nn h
theorem IntEnts.look{i:Int}{r:Option V}:∀{l:List (D×V)} {kvs:List (Int×Value)},IntEnts C σ ρ h l kvs→getD? l (.int i)=some r→(r=none∧valueAt kvs i=none)∨∃v x,r=some v∧valueAt kvs i=some x∧VR C σ ρ h v x
 | [],kvs,e,g=>by rw[show kvs=[] from e];exact .inl ⟨(sj g).symm,rfl⟩
 |(k,u)::l,kvs,e,g=>IntEnts.cons_e (M:=fun k kvs=>getD? ((k,u)::l) (.int i)=some r→(r=none∧valueAt kvs i=none)∨∃v x,r=some v∧valueAt kvs i=some x∧VR C σ ρ h v x) e (fun k x es' h1 h2 h3 g=>
    Za (x:=W8 (.int k) (.int i)) g fun b e g=>Vc (x:=some (some u)) (y:=getD? l (.int i)) g
     (fun h g=> .inr ⟨u,x,(sj g).symm,Zu ((sj e).trans h) ▸ valueAt_eq,h2⟩) fun h g=>by
     rw[V6 (Pf ((sj e).trans h))]
     exact IntEnts.look h3 g) g
theorem IntEnts.get{i:Int}{v:V}{l:List (D×V)}{kvs:List (Int×Value)}(e:IntEnts C σ ρ h l kvs)(g:getD? l (.int i)=some (some v)):∃x,valueAt kvs i=some x∧VR C σ ρ h v x:=(e.look g).elim (fun z=>nn z.1.symm) fun z=>z.elim fun v z=>z.elim fun x z=>⟨x,z.2.1,sj z.1 ▸ z.2.2⟩
theorem Wi{sl:Expr}{o i:Value}(h:Z1 sl=true):subscripted sl false o i=operate [o,i] (getItem o i):=U5 (M:=fun sl=>subscripted sl false o i=operate [o,i] (getItem o i)) h (fun _ _ _ _=>rfl) (fun _ _ _ _ _=>rfl) (fun _ _ _ _=>rfl) (fun _ _ _ _ _=>rfl) (fun _ _ _ _=>rfl) (fun _ _ _ _ _=>rfl) (fun _ _ _ _ _=>rfl) (fun _ _ _ _ _=>rfl) (fun _ _ _ _=>rfl) (fun _ _ _ _=>rfl) (fun _ _ _ _=>rfl) (fun _ _ _=>rfl) (fun _ _ _=>rfl) (fun _ _ _ _=>rfl) (fun _ _ _ _ h=>nf h)
theorem Xg{value sl:Expr}(hs:Z1 sl=true){A:Around}{s:Shared}{a:Addr}{items:Array Value}{i:Int}{tk:Tok}{x:Value}{Q:Value→Shared→Prop}{E:Value→Shared→Prop}
 (hl:s.heap.IsList a items) (h0:0≤i) (h1:i < 2 ^ 63) (hx:items.toList[i.toNat]? =some x) (q:Q x s):wpAny (model C.prog C.wld) A (subscriptTail value sl (.ref a) (.int i tk)) Q E s:=
 tail_any hl.typeIs slot_list_getitem.lookup (wpAny_getItem_list hl h0 h1 (by rw[← Array.getElem?_toList];exact hx) q) (Wi hs)
theorem Kb{es:List (D×V)}{i:Int}{r:Option V}(g:getD? es (.int i)=some r)(p:D×V)(l:List (D×V))(e:es=p::l):∃i,p.1= .int i:=by
 rw[e] at g;exact Za (x:=W8 p.1 (.int i)) g fun b e _=>U3 (M:=fun d=>∃i,d= .int i) e fun k _=>⟨k,rfl⟩
theorem K6{ν:Int→Int}{ds:List D}{i:Nat}{d:D}(h:ds[i]? =some d):(mDs ν ds)[i]? =some (mD ν d):=by rw[Xj,List.getElem?_map,h];rfl
def Vs(Z:Zx)(lo:Zd)(x y:V)(σ:St)(v:V):Prop:=∀value sl,Z1 sl=true→Q7 Z lo (subscriptTail value sl) x y σ v σ
theorem A3{i:Int}(h:small i=true):i < 2 ^ 63:=Int.lt_trans (Xw h).2 (by decide)
theorem J2{lo:Zd}{xs:List D}{k:Int}{d:D}{A:Around}{s:Shared}{items:Array Value}{tk:Tok}{a:Addr}{value sl:Expr}{Q:Value→Shared→Prop}{E:Value→Shared→Prop}(H:ZOk Z)(P:Pre Z lo A s σ ρ)(hs:Z1 sl=true)(hk:small k=true)(h1:idx xs k=some d)
 (la:s.heap.IsList a items) (ra:RdDs s.heap (Own Z.C σ ρ) (mDs Z.C.ν xs) items.toList) (q:KV Z lo A s σ ρ (.dat d) σ Q):Z.wp A (subscriptTail value sl (.ref a) (.int (Z.C.ν k) tk)) Q E s:=by
 rw[show Z.C.ν k=k from Rg H.X.v0 hk];exact(ra.get (K6 (Xa h1).2)).elim fun z hz=>Xg hs la (Xa h1).1 (A3 hk) hz.1 (q.here P hz.2)
theorem A7(H:ZOk Z){x y:D}{v:V}{lo:Zd}(h:Yh0 x y=some v):Vs Z lo (.dat x) (.dat y) σ v:=by
 cases x with
 |list xs=>exact Vf (M:=fun y=>Vs Z lo _ (.dat y) σ v) h fun k h=>Zl h fun hk h=>Za h fun dd h1 h=>sj h ▸ fun value sl hs A s ρ u w Q E P vx vy q=>vx.list_e fun a vs n pa la ra _=>vy.int_e fun t2=>J2 H P hs hk h1 (IsLx.list ⟨n,la⟩) ra q
 |tuple xs=>
  exact Vf (M:=fun y=>Vs Z lo _ (.dat y) σ v) h fun k h=>Zl h fun hk h=>Za h fun dd h1 h=>sj h ▸ fun value sl hs A s ρ u w Q E P vx vy q=>vx.tup_e fun a o vs n pa la ca da ra _=>vy.int_e fun t2=>by
   rw[show Z.C.ν k=k from Rg H.X.v0 hk];have i0:=(Xa h1).1;refine(ra.get (K6 (Xa h1).2)).elim fun z hz=> ?_;have hT:IsTup s.heap a vs.toList.toArray:=⟨o,la,ca,n,by rw[da]⟩;have hl:=(List.getElem?_eq_some_iff.mp hz.1).1;have lt:k < (vs.toList.length:Int):=(Int.toNat_lt i0).mp hl;exact item_tupleT hT (Int.le_trans (by decide) i0) (A3 hk) (seqIndex_of i0 lt) hz.1 (q.here P hz.2) (Wi hs)
 |_=>exact nn h
theorem A9(H:ZOk Z){n:Nat}{o:O}{y:D}{v:V}{lo:Zd}(h0:Z.C.get σ n=some o)(h:Zz9 o y=some v):Vs Z lo (.loc (.id n)) (.dat y) σ v:=Vf (M:=fun y=>Vs Z lo _ (.dat y) σ v) h fun k h value sl hs A s ρ u w Q E P vx vy q=>vx.loc_e fun _=>vy.int_e fun t2=>by
 have key:∀{r:List V} {items:Array Value},small k=true→idx r k=some v→IsLx s.heap (ρ (.id n)) items→VRs Z.C σ ρ s.heap r items.toList→Z.wp A (subscriptTail value sl (.ref (ρ (.id n))) (.int (Z.C.ν k) t2)) Q E s:=fun{r items} hk h1 la ra=>by
  rw[show Z.C.ν k=k from Rg H.X.v0 hk];exact(ra.get (Xa h1).2).elim fun z hz=>Xg hs la.list (Xa h1).1 (A3 hk) hz.1 (q.here P hz.2)
 have rep:=P.r.rep n _ h0;cases o with
 |dl r=>exact Zl h fun hk h=>Za h fun dd h1 h=>rep.elim fun items l=>J2 H P hs hk h1 l.1.list l.2 (sj h ▸ q)
 |rev r=>exact Zl h fun hk h1=>rep.elim fun items l=>key hk h1 l.1 l.2
 |list r=>exact Zl h fun hk h1=>rep.elim fun items l=>key hk h1 l.1 l.2
 |dict es=>
  refine Zl h fun hk h=>Za h fun r hg h=> ?_;cases h;rw[show Z.C.ν k=k from Zo H.X.v0 hk];exact(DictRep.ints rep (Kb hg)).elim fun kvs d=>(d.2.get hg).elim fun z hz=>tail_any d.1.typeIs slot_dict_getitem.lookup (wpAny_getItem_of (intKind_is Z.C.prog Z.C.wld k t2) d.1.mapOf hz.1 (q.tok P hz.2)) (Wi hs)
 |_=>exact nn h
theorem E0{k ν:Int}{items:Array Value}{x:Value}{b sl:Nat}(hb:b≤200000)(hsl:sl≤100000)(hz:items.size≤b + sl)(h:items[ν.toNat]? =some x)(h1:1≤ν):ν < 2 ^ 63:=by
 have:=(Array.getElem?_eq_some_iff.mp h).1;omega
theorem A8(H:ZOk Z){l:Lc}{y:D}{v:V}{lo:Zd}(h:Yh1 Z.C.T σ l y=some v):Vs Z lo (.loc l) (.dat y) σ v:=by
 cases l with
 |id n=>exact Za h fun o h0 h=>A9 H h0 h
 |objs=>
  exact Vf (M:=fun y=>Vs Z lo _ (.dat y) σ v) h fun k h=>Za h fun w0 hw h=>Za h fun fs hf h=>sj h ▸ fun value sl hs A s ρ u w Q E P vx vy q=>vx.loc_e fun _=>vy.int_e fun t2=>
   have W:=P.r.rw w0 hw
   W.objs_e fun items l1 l2 l3 l4=>Xg hs l1.list (Int.le_trans (by decide) (l4 k fs hf).1) (E0 (k:=k) W.bd H.X.slack l3 (l4 k fs hf).2 (l4 k fs hf).1) (by rw[Array.getElem?_toList];exact(l4 k fs hf).2) (q.here P ⟨rfl,w0,hw,congrArg Option.isSome hf⟩)
 |arrs=>
  exact Vf (M:=fun y=>Vs Z lo _ (.dat y) σ v) h fun k h=>Za h fun w0 hw h=>Za h fun fs hf h=>sj h ▸ fun value sl hs A s ρ u w Q E P vx vy q=>vx.loc_e fun _=>vy.int_e fun t2=>
   have W:=P.r.rw w0 hw
   W.arrs_e fun items l1 l2 l3 l4=>Xg hs l1.list (Int.le_trans (by decide) (l4 k fs hf).1) (E0 (k:=k) W.bd H.X.slack l3 (l4 k fs hf).2 (l4 k fs hf).1) (by rw[Array.getElem?_toList];exact(l4 k fs hf).2) (q.here P ⟨rfl,w0,hw,congrArg Option.isSome hf⟩)
 |vers=>
  exact Vf (M:=fun y=>Vs Z lo _ (.dat y) σ v) h fun k h=>Za h fun w0 hw h=>Za h fun i h1 h=>sj h ▸ fun value sl hs A s ρ u w Q E P vx vy q=>vx.loc_e fun _=>vy.int_e fun t2=>
   (P.r.rw w0 hw).vers_e fun f l1 l2 l3=>(l3 k i h1).2.elim fun tk m=>tail_any l1.typeIs slot_dict_getitem.lookup (wpAny_getItem_intMap l1 m (q.tok P ⟨tk,rfl⟩)) (Wi hs)
 |obj m=>
  exact Vf (M:=fun y=>Vs Z lo _ (.dat y) σ v) h fun k h=>Za h fun w0 hw h=>Za h fun fs hf h=>Zl h fun hk h=>Za h fun i h1 h=>sj h ▸ fun value sl hs A s ρ u w Q E P vx vy q=>vx.loc_e fun _=>vy.int_e fun t2=>by
   rw[show Z.C.ν k=k from Zo H.X.v0 hk];exact(P.r.rw w0 hw).obj_e hf fun kvs _ d l2=>(l2.get h1).2.elim fun tk m=>tail_any d.typeIs slot_dict_getitem.lookup (wpAny_getItem_of (intKind_is Z.C.prog Z.C.wld k t2) d.mapOf m (q.tok P ⟨tk,rfl⟩)) (Wi hs)
 |arr m=>
  exact Vf (M:=fun y=>Vs Z lo _ (.dat y) σ v) h fun k h=>Za h fun w0 hw h=>Za h fun xs hf h=>Zl h fun hk h=>Za h fun i h1 h=>sj h ▸ fun value sl hs A s ρ u w Q E P vx vy q=>vx.loc_e fun _=>vy.int_e fun t2=>by
   rw[show Z.C.ν k=k from Rg H.X.v0 hk];exact(P.r.rw w0 hw).arr_e hf fun items l1 l2=>(l2.get (Xa h1).2).elim fun tk m=>Xg hs l1.list (Xa h1).1 (A3 hk) m (q.here P ⟨tk,rfl⟩)
 |_=>exact nn h
theorem Er(H:ZOk Z){x y v:V}{lo:Zd}(h:Qw Z.C.T σ x y=some v):Vs Z lo x y σ v:=Rh (M:=fun y=>Vs Z lo x y σ v) h fun y h=>by
 cases x with
 |dat x=>exact A7 H h
 |loc l=>exact A8 H h
theorem Zz2(H:ZOk Z){a b:Clo}{l sl:Expr}{p:Pos}(ha:S2 Z a l)(hb:S2 Z b sl):S2 Z (Zqb Z.C.T a b) (.Subscript l sl p):= .of (fun lo σ v σ' ev=>Yk ev fun x σ1 h1 ev=>Yk ev fun y σ2 h2 ev=>Za ev fun v' h3 ev=>Z0 ev fun A s ρ Q E P q=>
 Subscript_ (two ha.s hb.s h1 h2 P fun ρ' s' u w P' k v1 v2=>Er H h3 l sl hb.p A s' ρ' u w Q E P' v1 v2 (q.after k))) rfl
theorem Zpt{s:Shared}(r:R C σ ρ s.heap){w:Wd}(hw:σ.w=some w)(k:WK):∃kvs z,s.heap.DictOf (strKind C.prog C.wld) (ρ .w) kvs∧valueAt kvs (Wy k)=some z∧VR C σ ρ s.heap (wkV w k) z:=
 have W:=r.rw w hw
 W.main_e fun x m1 m2=>by
  cases k with
  |store=>exact⟨_,.ref (ρ (.id w.sid)),m1,by kernel_rfl,rfl,Nat.lt_of_lt_of_le W.sid r.old⟩
  |objs=>exact⟨_,.ref (ρ .objs),m1,by kernel_rfl,rfl,w,hw,trivial⟩
  |arrays=>exact⟨_,.ref (ρ .arrs),m1,by kernel_rfl,rfl,w,hw,trivial⟩
  |versions=>exact⟨_,.ref (ρ .vers),m1,by kernel_rfl,rfl,w,hw,trivial⟩
  |pair=>exact⟨_,x,m1,by kernel_rfl,m2⟩
theorem Ygw{e:Clo}{k:WK}{l:Expr}{y:Str}{j:Nat}{p1 p:Pos}(he:S2 Z e l)(hy:Zs y (Wy k)=true):S2 Z (eWk e k) (.Subscript l (.Constant (.str y) j p1) p):= .of (fun lo σ v σ' ev=>Yhd ev fun σ1 h1 ev=>Za ev fun w hw ev=>Z0 ev fun A s ρ Q E P q=>
 Subscript_ (he.s lo σ _ σ1 h1 A s ρ _ _ P fun ρ1 s1 y P1 k1 v1=>wpAny_Constant_str (v1.loc_e fun _=>(Zpt P1.r hw k).elim fun kvs z=>z.elim fun z m=>by
  have m1:({s1 with toks:=s1.toks + 1}:Shared).heap.DictOf (strKind Z.C.prog Z.C.wld) (ρ1 .w) kvs:=m.1;rw[strB_iff.mp hy]
  exact tail_any (s:={s1 with toks:=s1.toks + 1}) m1.typeIs slot_dict_getitem.lookup (wpAny_getItem_of (s:={s1 with toks:=s1.toks + 1}) (strKind_is Z.C.prog Z.C.wld (Wy k) s1.toks) m1.mapOf m.2.1
   ((q.after k1).tok P1 m.2.2)) rfl))) rfl
theorem F7{α:Type}{l:List α}{n:Int}(h:F6 l=some n){M:Int→Prop}(k:l.length≤100000→M l.length):M n:=Zl h fun h1 h=>sj h ▸ k (Nat.le_of_ble_eq_true h1)
theorem K9{n:Nat}(h:n≤100000):Yo (n:Int)=true:=Wt (Nat.lt_of_le_of_lt h (by decide))
theorem Nums.len{ν:Int→Int}:∀{l:List Int} {vs:List Value},Nums ν l vs→vs.length=l.length
 | [],vs,e=>by rw[show vs=[] from e];rfl
 |i::r,vs,e=>Nums.cons_e (M:=fun vs=>vs.length=(i::r).length) e fun t vs' h=>congrArg (· + 1) (Nums.len h)
theorem Zsx{n:Nat}(h:n≤300000){k:Nat}(hk:300000≤k:=by decide):n≤k:=Nat.le_trans h hk
theorem U6(H:ZOk Z){α:Type}{l:List α}{n:Int}{a:Addr}{items:Array Value}{A:Around}{s:Shared}{Q:Value→Shared→Prop}{E:Value→Shared→Prop}(h1:F6 l=some n)(h2:items.size=l.length)(h3:s.heap.IsList a items)
 (q:∀tk,Q (.int (Z.C.ν n) tk) {s with toks:=s.toks + 1 + 1}):Z.wp A (call (.builtin "len") [.ref a]) Q E s:=
 F7 (M:=fun n=>(∀tk,Q (.int (Z.C.ν n) tk) {s with toks:=s.toks + 1 + 1})→Z.wp A (call (.builtin "len") [.ref a]) Q E s) h1 (fun h4 q=>PyProof.Rows.len_list h3 (by rw[h2];omega) (by rw[h2,← show Z.C.ν (l.length:Int)=l.length from Zo H.X.v0 (K9 h4)];exact q _)) q
theorem Zps(H:ZOk Z){n:Int}{a:Addr}{items:Array Value}{A:Around}{s:Shared}{b:Nat}{Q:Value→Shared→Prop}{E:Value→Shared→Prop}(hb:b≤200000)(h2:(items.size:Int)=Z.C.ν n)(hz:items.size≤b + Z.C.slack)(h3:s.heap.IsList a items)
 (q:∀tk,Q (.int (Z.C.ν n) tk) {s with toks:=s.toks + 1 + 1}):Z.wp A (call (.builtin "len") [.ref a]) Q E s:=
 PyProof.Rows.len_list h3 (by have:=H.X.slack;omega) (by rw[h2];exact q _)
theorem Zgq(H:ZOk Z){x:V}{n:Int}(h:Zb4 Z.C.T σ x=some n){lo:Zd}{A:Around}{s:Shared}{u:Value}{Q:Value→Shared→Prop}{E:Value→Shared→Prop}(P:Pre Z lo A s σ ρ)(vx:VR Z.C σ ρ s.heap x u)
 (q:∀tk,Q (.int (Z.C.ν n) tk) {s with toks:=s.toks + 1 + 1}):Z.wp A (call (.builtin "len") [u]) Q E s:=by
 cases x with
 |dat d=>
  cases d with
  |list xs=>exact vx.list_e fun a vs n' pa la ra e=>U6 H h e (IsLx.list ⟨n',la⟩) q
  |tuple xs=>
   exact vx.tup_e fun a o vs n' pa la ca da ra e=>F7 (M:=fun n=>(∀tk,Q (.int (Z.C.ν n) tk) _)→Z.wp A _ Q E s) h (fun h4 q=>by
    refine PyProof.Rows.len_tuple ⟨o,la,ca,n',da⟩ (by rw[e];omega) ?_;rw[e];have:=q (s.toks + 1);rw[show Z.C.ν _=_ from Zo H.X.v0 (K9 h4)] at this
    exact this) q
  |_=>exact nn h
 |loc l=>
  refine vx.loc_e fun _=> ?_;cases l with
  |id n'=>
   refine Za h fun o h0 h=> ?_;have rep:=P.r.rep n' _ h0;cases o with
   |dl r=>exact rep.elim fun items l=>U6 H h (by rw[← Array.length_toList,l.2.len,Y3,List.length_reverse]) l.1.list q
   |rev r=>exact rep.elim fun items l=>U6 H h (by rw[← Array.length_toList,l.2.len,List.length_reverse]) l.1.list q
   |list r=>exact rep.elim fun items l=>U6 H h (by rw[← Array.length_toList,l.2.len]) l.1.list q
   |_=>exact nn h
  |objs=>exact Za h fun w hw h=>(P.r.rw w hw).objs_e fun items l1 l2 l3 _=>Zps H (P.r.rw w hw).bd (sj h ▸ l2) l3 l1.list q
  |arrs=>exact Za h fun w hw h=>(P.r.rw w hw).arrs_e fun items l1 l2 l3 _=>Zps H (P.r.rw w hw).bd (sj h ▸ l2) l3 l1.list q
  |arr k=>exact Za h fun w hw h=>Za h fun xs hx h=>(P.r.rw w hw).arr_e hx fun items l1 l2=>U6 H h (by rw[← Array.length_toList,l2.len]) l1.list q
  |_=>exact nn h
def Zdg(Z:Zx)(lo:Zd)(b:Value)(x:V)(σ:St)(v:V):Prop:=∀A s ρ u Q E,Pre Z lo A s σ ρ→VR Z.C σ ρ s.heap x u→KV Z lo A s σ ρ v σ Q→Z.wp A (call b [u]) Q E s
theorem Bd(H:ZOk Z){lo:Zd}{x v:V}(h:iz (Zb4 Z.C.T σ x)=some v):Zdg Z lo (.builtin "len") x σ v:=Za h fun n hn h=>sj h ▸ fun A s ρ u Q E P vx q=>Zgq H hn P vx fun tk=>q.tok P ⟨tk,rfl⟩
theorem Ih{lo:Zd}{A:Around}{s:Shared}{ds:List D}{a:Addr}{items:Array Value}{Q:Value→Shared→Prop}{E:Value→Shared→Prop}(P:Pre Z lo A s σ ρ)(e2:IsLx s.heap a items)(e3:RdDs s.heap (Own Z.C σ ρ) (mDs Z.C.ν ds) items.toList)(e4:Ws ds.length=true)
 (q:KV Z lo A s σ ρ (.dat (.tuple ds)) σ Q):Z.wp A (call (.type "tuple") [.ref a]) Q E s:=by
 refine call_tuple_list e2.list (fun h' hk=> ?_) (by rw[← Array.length_toList,e3.len,Y3];exact Wj e4);have eg:Ext Z.C σ ρ s σ ρ {s with heap:=h'}:= .grow hk rfl;have:=(q.after eg).tup (xs:=items.toList) (P.grow (s':={s with heap:=h'}) hk rfl) (RdDs.stays eg.stays e3);rw[Array.toArray_toList] at this;exact this
theorem Zac{lo:Zd}{x v:V}(h:Yh2 Z.C.T x σ=some v):Zdg Z lo (.type "tuple") x σ v:=by
 cases x with
 |dat d=>
  cases d with
  |list xs=>exact Zl h fun hs h=>sj h ▸ fun A s ρ u Q E P vx q=>vx.list_e fun a vs n pa la ra _=>Ih P ⟨n,la⟩ ra hs q
  |tuple xs=>
   exact sj h ▸ fun A s ρ u Q E P vx q=>by
    obtain⟨a,o,vs,n',rfl,pa,la,ca,da,ra⟩:=id vx;exact call_tuple_same ⟨o,la,ca,n',da⟩ (q.here P vx)
  |_=>exact nn h
 |loc l=>exact Zb3 (M:=fun l=>Zdg Z lo (.type "tuple") (.loc l) σ v) h fun n h=>Ni h fun r h0 h=>Za h fun ds h1 h=>Zl h fun hs h=>sj h ▸ fun A s ρ u Q E P vx q=>vx.loc_e fun _=>Exists.elim (P.r.rep n _ h0) fun items l=>Ih P l.1 (Ug h1 l.2) hs q
theorem A5(H:ZOk Z){lo:Zd}{x v:V}(h:(vZ x fun i=>gd (leN i 100000) (some (.dat (.str (Str.ofString (toString i))))))=some v):Zdg Z lo (.type "str") x σ v:=Q6 (M:=fun x=>Zdg Z lo (.type "str") x σ v) h fun i h=>Zl h fun hs h=>sj h ▸ fun A s ρ u Q E P vx q=>vx.int_e fun tk=>by
 have h1:=Ww hs;rw[show Z.C.ν i=i from Zo H.X.v0 (Vy hs (by decide))];exact str_of_int_fit (N:=4611686018427387904) (by rw[if_neg (Int.not_lt.mpr h1.1)];omega) (by decide) fun _=>q.tok P ⟨s.toks,rfl⟩
theorem Hn{lo:Zd}{x:D}{v:V}(h:Fv x=some v){A:Around}{s:Shared}{u:Value}{Q:Value→Shared→Prop}{E:Value→Shared→Prop}(P:Pre Z lo A s σ ρ)(vx:VR Z.C σ ρ s.heap (.dat x) u)(q:KV Z lo A s σ ρ v σ Q):Z.wp A (call (.builtin "isinstance") [u,.type "tuple"]) Q E s:=by
 cases x with
 |tuple xs=>cases sj h;exact vx.tup_e fun a o vs n pa la ca da ra _=>PySem.IsiPair.tuple_tuple la ca (q.here P rfl)
 |int i=>cases sj h;exact vx.int_e fun tk=>PySem.IsiPair.int_tuple (q.tok P rfl)
 |_=>exact nn h
theorem Qa(H:ZOk Z){b:BI}{x:Str}{p:Pos}(hx:Zs (Y9 b) x=true)(hk:Z.env.kindOf x=some .globalImplicit)(hd:(x == ("__debug__":Str))=false){A:Around}{s:Shared}{Q:Value→Shared→Prop}{E:Value→Shared→Prop}
 (r:Z.C.K.In s.heap) (q:Q (E7 b) s):Z.wp A (eval (.Name x p) Z.env) Q E s:=by
 have h:=H.X.bl b;rw[strB_iff.mp hx] at h;exact Name_function_global H.N.kind hk (loadGlobal_builtin (by rw[H.N.glo];exact H.X.nsG _ r) h.1 (by rw[H.N.blt];exact H.X.nsB _ r) h.2 q) hd
theorem Ra{a:Clo}{e:Expr}(ha:S2 Z a e){lo:Zd}{x:V}{σ':St}(h1:a lo σ=some (x,σ')){A:Around}{s:Shared}{p:Pos}{K:List Value→Shared→Prop}{E:Value→Shared→Prop}(P:Pre Z lo A s σ ρ)
 (q:∀ρ' s' u,Pre Z lo A s' σ' ρ'→Ext Z.C σ ρ s σ' ρ' s'→VR Z.C σ' ρ' s'.heap x u→K [u] s'):Z.wp A (spliced (backTo p (starEach [e] Z.env))) K E s:=
 args_cons (ha.s lo σ x σ' h1 A s ρ _ _ P fun ρ1 s1 u P1 k1 v1=>args_nil (q ρ1 s1 u P1 k1 v1)) (Zh ha.p)
theorem Zr5(H:ZOk Z){b:BI}{a:Clo}{n:Str}{e:Expr}{j:Nat}{np p:Pos}(ha:S2 Z a e)(hj:okN Z.t .globalImplicit j n=true)(hn:Zs (Y9 b) n=true)(hb:b≠ .isTup):S2 Z (eBi Z.C.T b a) (.Call (.Name n np) [e] [] p):= .of (fun lo σ v σ' ev=>Yk ev fun x σ1 h1 ev=>Za ev fun r h2 ev=>Z0 ev fun A s ρ Q E P q=>by
 have o:=Ym H.N hj;refine Call_ (Qa H hn o.2.1 o.2.2 P.r.fr ?_);cases b with
 |len=>exact callWith_builtin1 (Ra ha h1 P fun ρ' s' u P' k v1=>Bd H h2 A s' ρ' u Q E P' v1 (q.after k)) (Zh ha.p)
 |range=>exact nn h2
 |tuple=>exact callWith_type1 (Ra ha h1 P fun ρ' s' u P' k v1=>Zac h2 A s' ρ' u Q E P' v1 (q.after k)) (Zh ha.p)
 |str=>exact callWith_type1 (Ra ha h1 P fun ρ' s' u P' k v1=>A5 H h2 A s' ρ' u Q E P' v1 (q.after k)) (Zh ha.p)
 |isTup=>exact(hb rfl).elim) rfl
theorem Qd:∀{l:List (Str×NameKind)} {x:Str} {k:NameKind},l.lookup x=some k→∃j:Nat,l[j]? =some (x,k)
 | [],x,k,h=>nn h
 |p::r,x,k,h=>by
  rw[List.lookup_cons] at h;cases e:(x == p.1) with
  |true=>
   rw[e] at h;exact⟨0,congrArg some (Prod.ext (eq_of_beq e).symm (sj h))⟩
  |false=>
   rw[e] at h;exact(Qd h).elim fun j hj=>⟨j + 1,hj⟩
theorem Ec{b:BI}{e:Expr}(H:ZOk Z)(h:Zqx Z.t (Y9 b) e=true){M:Expr→Prop}(k:∀x p,Zs (Y9 b) x=true→Z.env.kindOf x=some .globalImplicit→(x == ("__debug__":Str))=false→M (.Name x p)):M e:=
 Y2 h fun x p h=>Yp h fun h1 h2=>(Qd (of_decide_eq_true h2)).elim fun j hj=>have m:=H.N.ns j x _ hj;k x p (strB_iff.mpr (strB_iff.mp h1).symm) m.1 m.2
theorem Ax(H:ZOk Z){a:Clo}{n:Str}{e y:Expr}{j:Nat}{np p:Pos}(ha:S2 Z a e)(hj:okN Z.t .globalImplicit j n=true)(hn:Zs (Y9 .isTup) n=true)(hy:Zqx Z.t "tuple" y=true):S2 Z (eBi Z.C.T .isTup a) (.Call (.Name n np) [e,y] [] p):=Ec (b:= .tuple) (M:=fun y=>S2 Z (eBi Z.C.T .isTup a) (.Call (.Name n np) [e,y] [] p)) H hy fun x xp m0 m1 m2=> .of (fun lo σ v σ' ev=>Yk ev fun x σ1 h1 ev=>Za ev fun r h2 ev=>Z0 ev fun A s ρ Q E P q=>by
 have o:=Ym H.N hj;refine Call_ (Qa H hn o.2.1 o.2.2 P.r.fr ?_)
 exact callWith_builtin1 (args_cons (ha.s lo σ x σ1 h1 A s ρ _ _ P fun ρ1 s1 u P1 k1 v1=>args_cons (Qa (b:= .tuple) H m0 m1 m2 P1.r.fr (args_nil (Rh (M:=fun x=>VR Z.C σ1 ρ1 s1.heap x u→_) h2 (fun d h2 v1=>Hn h2 P1 v1 (q.after k1)) v1))) rfl) (Zh ha.p)) (Zh ha.p)) rfl
def RgE(Z:Zx)(a:Clo)(ex:Expr):Prop:=∀lo σ n σ',a lo σ=some (.dat (.int n),σ')→leN n 100000=true→∀A s ρ Q E,Pre Z lo A s σ ρ→
 (∀ρ' s' b t1 t2 t3,Pre Z lo A s' σ' ρ'→Ext Z.C σ ρ s σ' ρ' s'→IsRange s'.heap b 0 n 1 t1 t2 t3→Q (.ref b) s')→Z.wp A (eval ex Z.env) Q E s
theorem T7(H:ZOk Z){a:Clo}{x:Str}{e:Expr}{np p:Pos}(ha:S2 Z a e)(hn:Zs (Y9 .range) x=true)(m1:Z.env.kindOf x=some .globalImplicit)(m2:(x == ("__debug__":Str))=false):RgE Z a (.Call (.Name x np) [e] [] p):=fun lo σ n σ' h1 hl A s ρ Q E P q=>
 Call_ (Qa H hn m1 m2 P.r.fr (callWith_type1 (Ra ha h1 P fun ρ1 s1 u P1 k1 v1=>v1.int_e fun tk=>by
  rw[show Z.C.ν n=n from Zo H.X.v0 (Vy hl (by decide))]
  exact call_range_1 (q ρ1 _ _ _ _ _ (P1.grow Vv rfl) (k1.trans (.grow Vv rfl)) (IsRange.new _ _ _ _ _ _ _))) (Zh ha.p)))
def SoundCF(C:Cx)(d:Nat)(cf:Nat→List V→St→Res):Prop:=∀f vs σ v σ',cf f vs σ=some (v,σ')→∀{A:Around} {s:Shared} {ρ:Rho} (xs:List Value) (B:Result→Shared→Prop),RoomC A d→
 R C σ ρ s.heap→VRs C σ ρ s.heap vs xs→(∀ρ' s' x,R C σ' ρ' s'.heap→Ext C σ ρ s σ' ρ' s'→VR C σ' ρ' s'.heap v x→B (.ok (.ret x)) s')→codeAny (model C.prog C.wld) A (.call (.ref (C.fa f)) ⟨xs,[]⟩) B s
theorem SoundCF.go{cf:Nat→List V→St→Res}(h:SoundCF Z.C Z.d cf){f:Nat}{vs:List V}{σ':St}{v:V}(e:cf f vs σ=some (v,σ')){lo:Zd}{A:Around}{s:Shared}{xs:List Value}{Q:Value→Shared→Prop}{E:Value→Shared→Prop}(P:Pre Z lo A s σ ρ)(vr:VRs Z.C σ ρ s.heap vs xs)(q:KV Z lo A s σ ρ v σ' Q):Z.wp A (PySem.call (.ref (Z.C.fa f)) xs) Q E s:=
 wpAny_call (h f vs σ v σ' e xs _ P.rm.c P.r vr fun ρ' s' x r k v=>q.to P r k v)
theorem Zom(H:ZOk Z){cf:Nat→List V→St→Res}(hcf:SoundCF Z.C Z.d cf){f:Nat}{args:Q3}{n:Str}{e:Expr}{es:List Expr}{j:Nat}{np p:Pos}(ha:SL Z args (e::es))(hj:okN Z.t .globalImplicit j n=true)(hn:Zs (Z.t.fn f) n=true)(hg:Z.t.isG f=true):S2 Z (Hb cf f args) (.Call (.Name n np) (e::es) [] p):= .of (fun lo σ v σ' ev=>Yk ev fun vs σ1 h1 ev A s ρ Q E P q=>by
 have o:=Ym H.N hj;have g:=H.X.fg f (H.N.isG ▸ hg);refine g.2.elim fun ob z=>z.elim fun fd z=>Call_ (Ky H o.2.1 o.2.2 (by rw[← strB_iff.mp hn,H.N.fn];exact g.1) P.r.fr ?_)
 exact callWith_def (o:=ob) (fd:=fd) z.2 (ha.s lo σ vs σ1 h1 A s ρ p _ _ P fun ρ1 s1 xs P1 k1 v1=>⟨P1.r.fr _ _ z.1,hcf.go ev P1 v1 (q.after k1)⟩) (Zh (a2 ha.p).1)) rfl
theorem Hz(ν:Int→Int)(l:List D)(n:Nat):mDs ν (l.drop n)=(mDs ν l).drop n:=by rw[Xj,Xj,List.map_drop]
theorem H0(ν:Int→Int)(l:List D)(n:Nat):mDs ν (l.take n)=(mDs ν l).take n:=by rw[Xj,Xj,List.map_take]
theorem RdDs.drop{P:Addr→Prop}:∀{n:Nat} {l:List D} {vs:List Value},RdDs h P l vs→RdDs h P (l.drop n) (vs.drop n)
 |0,l,vs,e=>e
 |n + 1,[],vs,e=>e.nil_e (M:=fun vs=>RdDs h P [] (vs.drop (n + 1))) rfl
 |n + 1,d::r,vs,e=>e.cons_e (M:=fun vs=>RdDs h P (r.drop n) (vs.drop (n + 1))) fun v vs' h1 h2=>RdDs.drop (n:=n) h2
theorem RdDs.take{P:Addr→Prop}:∀{n:Nat} {l:List D} {vs:List Value},RdDs h P l vs→RdDs h P (l.take n) (vs.take n)
 |0,l,vs,e=>rfl
 |n + 1,[],vs,e=>e.nil_e (M:=fun vs=>RdDs h P [] (vs.take (n + 1))) rfl
 |n + 1,d::r,vs,e=>e.cons_e (M:=fun vs=>RdDs h P (d::r.take n) (vs.take (n + 1))) fun v vs' h1 h2=>⟨v,vs'.take n,rfl,h1,RdDs.take h2⟩
theorem Ny{value:Expr}{lower upper:Option Expr}{p:Pos}{lo:Zd}{A:Around}{s:Shared}{Q:Value→Shared→Prop}{E:Value→Shared→Prop}{xs ds:List D}{u vl vu:Value}{l0 hi:Option Int}
 (P:Pre Z lo A s σ ρ) (vx:VR Z.C σ ρ s.heap (.dat (.list xs)) u) (pl:IsPart vl l0) (pu:IsPart vu hi) (hz:Ws xs.length=true)
 (hp:∀items:Array Value,items.size=xs.length→RdDs s.heap (Own Z.C σ ρ) (mDs Z.C.ν xs) items.toList→RdDs s.heap (Own Z.C σ ρ) (mDs Z.C.ν ds) (slicePick items l0 hi none).toList)
 (q:KV Z lo A s σ ρ (.dat (.list ds)) σ Q):
 Z.wp A (subscriptTail value (.Slice lower upper none p) u (.ref s.heap.objs.size)) Q E {s with heap:=s.heap.push {cls:= .type "slice",data:= .fields #[vl,vu,.none]}}:=vx.list_e fun a vs n' pa la ra e=>by
 have hl:(s.heap.push {cls:= .type "slice",data:= .fields #[vl,vu,.none]}).IsList a vs:=IsLx.list ⟨n',Vv _ _ la⟩;have eg:Ext Z.C σ ρ s σ ρ {s with heap:=s.heap.push {cls:= .type "slice",data:= .fields #[vl,vu,.none]}}:= .grow Vv rfl
 refine tail_any (s:={s with heap:=s.heap.push {cls:= .type "slice",data:= .fields #[vl,vu,.none]}}) hl.typeIs slot_list_getitem.lookup
  (wpAny_getItem_list_slice (s:={s with heap:=s.heap.push {cls:= .type "slice",data:= .fields #[vl,vu,.none]}}) hl (Heap.IsSliceOf.new ..) pl pu .none (by simp) ?_ (by rw[e];exact Wj hz)) (ops:=[.ref s.heap.objs.size,.ref a]) rfl
 have:=(q.after eg).list (xs:=(slicePick vs l0 hi none).toList) (P.grow (s':={s with heap:=s.heap.push {cls:= .type "slice",data:= .fields #[vl,vu,.none]}}) Vv rfl) (RdDs.stays eg.stays (hp vs e ra));rw[Array.toArray_toList] at this;exact this
theorem Po{i:Int}{k:Nat}(h:leN i k=true){M:Int→Prop}(f:∀n:Nat,n≤k→M n):M i:=by
 cases i with
 |ofNat n=>exact f n (Nat.le_of_ble_eq_true h)
 |negSucc _=>exact nf h
theorem Zop(H:ZOk Z){e a:Clo}{l x:Expr}{sp p:Pos}(he:S2 Z e l)(ha:S2 Z a x):S2 Z (Zaz List.drop e a) (.Subscript l (.Slice (some x) none none sp) p):= .of (fun lo σ v σ' ev=>Zrf ev fun xs σ1 h1 ev=>Fa ev fun i σ2 h2 ev=>Zl ev fun hs ev=>Yp hs fun h3 h4=>Z0 ev fun A s ρ Q E P q=>
 Subscript_ (he.s lo σ _ σ1 h1 A s ρ _ _ P fun ρ1 s1 u P1 k1 v1=>wpAny_Slice (ha.s lo σ1 _ σ2 h2 A s1 ρ1 _ _ P1 fun ρ2 s2 w P2 k2 v2=>wpAny_pure (wpAny_pure (v2.int_e fun tk=>by
  rw[show Z.C.ν i=i from Zo H.X.v0 (Vy h3 (Nat.le_of_ble_eq_true h4))];refine Ny (ds:=xs.drop i.toNat) P2 (v1.ext k2) (.int _ _) .none h4 (fun items hz rd=>Po (M:=fun i=>RdDs _ _ (mDs _ (xs.drop i.toNat)) (slicePick items (some i) none none).toList) h3 fun n hn=> ?_) (q.after (k1.trans k2));rw[slicePick_from items n (hz ▸ hn),List.toList_toArray,Hz]
  exact rd.drop))))) rfl
theorem Zoq(H:ZOk Z){e a:Clo}{l x:Expr}{sp p:Pos}(he:S2 Z e l)(ha:S2 Z a x):S2 Z (Zaz List.take e a) (.Subscript l (.Slice none (some x) none sp) p):= .of (fun lo σ v σ' ev=>Zrf ev fun xs σ1 h1 ev=>Fa ev fun i σ2 h2 ev=>Zl ev fun hs ev=>Yp hs fun h3 h4=>Z0 ev fun A s ρ Q E P q=>
 Subscript_ (he.s lo σ _ σ1 h1 A s ρ _ _ P fun ρ1 s1 u P1 k1 v1=>wpAny_Slice (wpAny_pure (ha.s lo σ1 _ σ2 h2 A s1 ρ1 _ _ P1 fun ρ2 s2 w P2 k2 v2=>wpAny_pure (v2.int_e fun tk=>by
  rw[show Z.C.ν i=i from Zo H.X.v0 (Vy h3 (Nat.le_of_ble_eq_true h4))];refine Ny (ds:=xs.take i.toNat) P2 (v1.ext k2) .none (.int _ _) h4 (fun items hz rd=>Po (M:=fun i=>RdDs _ _ (mDs _ (xs.take i.toNat)) (slicePick items none (some i) none).toList) h3 fun n hn=> ?_) (q.after (k1.trans k2));rw[slicePick_upto items n (hz ▸ hn),List.toList_toArray,H0]
  exact rd.take))))) rfl
theorem RdDs.snoc{P:Addr→Prop}{d:D}{x:Value}(hx:RdD h P d x){l:List D}{vs:List Value}(e:RdDs h P l vs):RdDs h P (l++[d]) (vs++[x]):=e.append ⟨x,[],rfl,hx,rfl⟩
theorem VRs.snoc{v:V}{x:Value}(hx:VR C σ ρ h v x):∀{l:List V} {vs:List Value},VRs C σ ρ h l vs→VRs C σ ρ h (l++[v]) (vs++[x])
 | [],vs,e=>e.nil_e (M:=fun vs=>VRs C σ ρ h [v] (vs++[x])) ⟨x,[],rfl,hx,rfl⟩
 |u::r,vs,e=>e.cons_e (M:=fun vs=>VRs C σ ρ h (u::(r++[v])) (vs++[x])) fun y vs' h1 h2=>⟨y,vs'++[x],rfl,h1,VRs.snoc hx h2⟩
theorem Vo{σ':St}{s:Shared}{n:Nat}{o o':O}{items:Array Value}{m:Nat}{f:Array Value→Array Value}(r:R C σ ρ s.heap)(h0:C.get σ n=some o)(hd:o≠ .dead)(hi':∀c vs,o'≠ .inst c vs)
 (l:IsL s.heap (ρ (.id n)) items m) (e:X3 σ n o'=some σ')
 (q:Stays s.heap (Own C σ ρ) (s.heap.update (ρ (.id n)) (Obj.mapSeq f)) (Own C σ' ρ)→(∀l,Dom σ l→Dom σ' l)→IsLx (s.heap.update (ρ (.id n)) (Obj.mapSeq f)) (ρ (.id n)) (f items)→RepO C σ' ρ (s.heap.update (ρ (.id n)) (Obj.mapSeq f)) n o'):
 R C σ' ρ (s.heap.update (ρ (.id n)) (Obj.mapSeq f))∧Ext C σ ρ s σ' ρ {s with heap:=s.heap.update (ρ (.id n)) (Obj.mapSeq f)}:=
 have z:=r.put h0 hd e (h':=s.heap.update (ρ (.id n)) (Obj.mapSeq f)) (fun b x hb _ g=>by rw[Heap.get?_update_other _ _ (Ne.symm hb)];exact g) (fun z=>z.elim fun c z=>z.elim fun vs z=>(hi' c vs z).elim) (fun st hdm=>q st hdm ⟨_,l.update f⟩)
 ⟨z.1,z.2.1,z.2.2.1,fun _ _=>rfl,z.2.2.2,rfl⟩
theorem Cw{n:Nat}(hl:Cv (C.get σ n)=true)(r:R C σ ρ h):∃items m,IsL h (ρ (.id n)) items m:=by
 cases hg:C.get σ n with
 |none=>rw[hg] at hl;exact nf hl
 |some o=>
  have rep:=r.rep n _ hg;rw[hg] at hl;cases o with
  |dl _=>exact rep.elim fun items e=>e.1.elim fun m l=>⟨items,m,l⟩
  |rev _=>exact rep.elim fun items e=>e.1.elim fun m l=>⟨items,m,l⟩
  |_=>exact nf hl
theorem Zyp{e a:Clo}{o y:Expr}{n:Str}{ap p:Pos}(he:S2 Z e o)(ha:S2 Z a y)(hb:Y5 o=true)(hl:(ap.endLine == p.line)=true)(hn:Zs n "append"=true):S2 Z (Zq5 Z.C.T e a) (.Call (.Attribute o n ap) [y] [] p):=by
 rw[strB_iff.mp hn];refine .of (fun lo σ v σ' ev=>Zax ev fun n σ1 h1 ev=>Zl ev fun h2 ev=>Yk ev fun u σ2 h3 ev=>Za ev fun oo g1 ev=>Za ev fun o' g2 ev=>Za ev fun σ3 g3 ev=>Z0 ev fun A s ρ Q E Pr q=> ?_) rfl;refine wpAny_Call_method1_late (Yl hb _) hl (by rw[Zh ha.p];rfl) (he.s lo σ _ σ1 h1 A s ρ _ _ Pr fun ρ1 s1 w P1 k1 v1=>v1.loc_e fun hdm=> ?_);obtain⟨it1,m1,l1⟩:=Cw h2 P1.r;refine⟨"list","list.append",PySem.F.plainAttrs_list,PySem.F.slot_list_append,PySem.F.type_list_append,l1.isList.typeIs,fun b hb=>by cases hb;exact⟨_,l1,rfl⟩,?_⟩;refine P.append_list (ha.s lo σ1 _ σ2 h3 A s1 ρ1 _ _ P1 fun ρ2 s2 w P2 k2 v2=> ?_);have e1:ρ2 (.id n)=ρ1 (.id n):=k2.rho _ hdm;have rep:=P2.r.rep n _ g1;have fin:∀{items:Array Value} {m:Nat},IsL s2.heap (ρ2 (.id n)) items m→items.size≤sizeLine→R Z.C σ3 ρ2 (s2.heap.update (ρ2 (.id n)) (Obj.mapSeq fun xs=>xs.push w))∧Ext Z.C σ2 ρ2 s2 σ3 ρ2 {s2 with heap:=s2.heap.update (ρ2 (.id n)) (Obj.mapSeq fun xs=>xs.push w)}→∃items m,items.size≤sizeLine∧IsL s2.heap (ρ1 (.id n)) items m∧Q .none {s2 with heap:=s2.heap.update (ρ1 (.id n)) (Obj.mapSeq fun xs=>xs.push w)}:=fun{items m} l hz z=>by
  rw[e1] at l z;exact⟨items,m,hz,l,(q.after (k1.trans k2)).to P2 z.1 z.2 rfl⟩
 cases oo with
 |dl rr=>
  refine Rh (M:=fun u=>VR Z.C σ2 ρ2 s2.heap u w→_) g2 (fun dd g2 v2=>Zl g2 fun gz g2=> ?_) v2;cases sj g2
  exact rep.elim fun items l=>l.1.elim fun m l1=>fin l1 (by rw[← Array.length_toList,l.2.len,Y3,List.length_reverse];exact Wj gz) (Vo (o:= .dl rr) (o':= .dl (dd::rr)) (f:=fun xs=>xs.push w) P2.r g1 nofun nofun l1 g3 fun st hd lx=>⟨_,lx,by
   rw[List.reverse_cons,Xi,Array.toList_push];exact RdDs.snoc (RdD.stays st v2) (RdDs.stays st l.2)⟩)
 |rev rr=>
  refine Zl g2 fun gz g2=> ?_;cases sj g2
  exact rep.elim fun items l=>l.1.elim fun m l1=>fin l1 (by rw[← Array.length_toList,l.2.len,List.length_reverse];exact Wj gz) (Vo (o:= .rev rr) (o':= .rev (u::rr)) (f:=fun xs=>xs.push w) P2.r g1 nofun nofun l1 g3 fun st hd lx=>⟨_,lx,by
   rw[List.reverse_cons,Array.toList_push];exact VRs.snoc (v2.stays st hd fun _ _=>rfl) (l.2.stays st hd fun _ _=>rfl)⟩)
 |_=>exact nn g2
theorem RdDs.last{P:Addr→Prop}{d:D}:∀{l:List D} {vs:List Value},RdDs h P (l++[d]) vs→∃vs' x,vs=vs'++[x]∧RdDs h P l vs'∧RdD h P d x
 | [],vs,e=>RdDs.cons_e (r:=[]) (M:=fun vs=>∃vs' x,vs=vs'++[x]∧RdDs h P [] vs'∧RdD h P d x) e fun v vs' h1 h2=>h2.nil_e (M:=fun vs'=>∃us x,v::vs'=us++[x]∧RdDs h P [] us∧RdD h P d x) ⟨[],v,rfl,rfl,h1⟩
 |x::r,vs,e=>RdDs.cons_e (r:=r++[d]) (M:=fun vs=>∃vs' y,vs=vs'++[y]∧RdDs h P (x::r) vs'∧RdD h P d y) e fun v vs' h1 h2=>(RdDs.last h2).elim fun us z=>z.elim fun y z=>⟨v::us,y,by rw[z.1];rfl,⟨v,us,rfl,h1,z.2.1⟩,z.2.2⟩
theorem Znw{l:List D}{f:D→List D→Res}{r:V×St}(h:Ygq l f=some r){P:Prop}(k:∀d t,l=d::t→f d t=some r→P):P:=by
 cases l with
 |nil=>exact nn h
 |cons d t=>exact k d t rfl h
theorem Ge{items:Array Value}{vs:List Value}{y:Value}(h:items.toList=vs++[y]):items.size=vs.length + 1∧items[items.size - 1]? =some y∧(items.eraseIdxIfInBounds (items.size - 1)).toList=vs:=by
 have hsz:items.size=vs.length + 1:=by rw[← Array.length_toList,h,List.length_append];rfl
 refine⟨hsz,?_,?_⟩
 ·rw[← Array.getElem?_toList,h,hsz];simp
 ·rw[Array.eraseIdxIfInBounds,dif_pos (by rw[hsz];exact Nat.lt_succ_self _),Array.toList_eraseIdx,h,hsz]
  simp[List.eraseIdx_append_of_length_le]
theorem Zz0{e:Clo}{o:Expr}{n:Str}{ap p:Pos}(he:S2 Z e o)(hb:Y5 o=true)(hl:(ap.endLine == p.line)=true)(hn:Zs n "pop"=true):S2 Z (Zqa Z.C.T e) (.Call (.Attribute o n ap) [] [] p):=by
 rw[strB_iff.mp hn];refine .of (fun lo σ v σ' ev=>Zax ev fun n σ1 h1 ev=>Zmt ev fun l g1 ev=>Znw ev fun dd rr el ev=>Zl ev fun g2 ev=>Za ev fun σ3 g3 ev=>Z0 ev fun A s ρ Q E Pr q=> ?_) rfl;refine wpAny_Call_method0_late (Yl hb _) hl (he.s lo σ _ σ1 h1 A s ρ _ _ Pr fun ρ1 s1 w P1 k1 v1=>v1.loc_e fun hdm=> ?_);rw[el] at g1;obtain⟨items,⟨m,l⟩,rd⟩:=P1.r.rep n _ g1;rw[List.reverse_cons,Xi] at rd;refine(RdDs.last rd).elim fun vs' z=>z.elim fun y z=> ?_;have pl:=Ge z.1
 have zz:=Vo (o':= .dl rr) (f:=fun xs=>xs.eraseIdxIfInBounds (items.size - 1)) P1.r g1 nofun nofun l g3 (fun st hd lx=>⟨_,lx,by
  rw[pl.2.2];exact RdDs.stays st z.2.1⟩)
 refine⟨"list","list.pop",PySem.F.plainAttrs_list,PySem.F.slot_list_pop,PySem.F.type_list_pop,l.isList.typeIs,fun b hb=>by cases hb;exact⟨_,l,rfl⟩,?_⟩;refine P.pop_list l pl.2.1 ((q.after k1).to P1 zz.1 zz.2 (RdD.stays zz.2.stays z.2.2)) ?_;rw[pl.1,z.2.1.len,Y3,List.length_reverse,sizeLine_eq];exact Nat.le_trans (Nat.succ_le_succ (Nat.le_of_ble_eq_true g2)) (by decide)
theorem Ly{a b:Int}(h:Yo a=true)(h':Yo b=true):eqC [] a b=some (decide (a=b)):=by
 unfold eqC;rw[Y1 h,Y1 h'];show some (eqB a b)=_;by_cases e:a=b
 ·rw[decide_eq_true e,e,Sv]
 ·rw[decide_eq_false e,Bool.eq_false_iff.mpr fun q=>e (Zu q)]
theorem Of{p q:Prop} [Decidable p] [Decidable q]:Zav (some (decide p)) (some (decide q))=some (decide (p∧q)):=by
 by_cases h:p <;> by_cases h':q <;> simp[h,h',Zav]
theorem R1:∀{x y:List D} {k k':List Int},ints? x=some k→ints? y=some k'→Y8 x=true→Y8 y=true→Mh [] x y=some (decide (k=k'))
 | [],[],k,k',e,e',_,_=>by cases e;cases e';rfl
 | [],d::ys,k,k',e,e',_,_=>by cases e;exact T9 (M:=fun d k'=>Mh [] [] (d::ys)=some (decide ([]=k'))) e' fun j r _=>rfl
 |d::xs,[],k,k',e,e',_,_=>by cases e';exact T9 (M:=fun d k=>Mh [] (d::xs) []=some (decide (k=[]))) e fun j r _=>rfl
 |d::xs,d'::ys,k,k',e,e',h,h'=>T9 (M:=fun d k=>Y8 (d::xs)=true→Mh [] (d::xs) (d'::ys)=some (decide (k=k'))) e (fun i l e1 h=>T9 (M:=fun d' k'=>Y8 (d'::ys)=true→Mh [] (.int i::xs) (d'::ys)=some (decide (i::l=k'))) e' (fun j l' e2 h'=>by
   show Zav (eqC [] i j) (Mh [] xs ys)=_;rw[Ly (a2 h).1 (a2 h').1,R1 e1 e2 (a2 h).2 (a2 h').2,Of]
   exact congrArg some (decide_eq_decide.mpr List.cons_eq_cons.symm)) h') h
theorem Dp{d:D}{k:NK}(e:dNK d=some k){M:D→NK→Prop}(f:∀i,M (.int i) (.i i))(g:∀xs l,ints? xs=some l→M (.tuple xs) (.t l)):M d k:=by
 cases d with
 |int i=>exact sj e ▸ f i
 |tuple xs=>exact Za (f:=fun l=>some (NK.t l)) e fun l h e=>sj e ▸ g xs l h
 |_=>exact nn e
theorem Zf4{x y:D}{k k':NK}(e:dNK x=some k)(e':dNK y=some k')(h:Q4 x=true)(h':Q4 y=true):eqD [] x y=some (decide (k=k')):=
 Dp (M:=fun x k=>Q4 x=true→eqD [] x y=some (decide (k=k'))) e (fun i h=>Dp (M:=fun y k'=>Q4 y=true→eqD [] (.int i) y=some (decide (NK.i i=k'))) e' (fun j h'=>(Ly h h').trans (congrArg some (decide_eq_decide.mpr ⟨congrArg NK.i,NK.i.inj⟩))) (fun ys l _ _=>congrArg some (decide_eq_false nofun).symm) h')
  (fun xs l e1 h=>Dp (M:=fun y k'=>Q4 y=true→eqD [] (.tuple xs) y=some (decide (NK.t l=k'))) e' (fun j _=>congrArg some (decide_eq_false nofun).symm) (fun ys l' e2 h'=>(R1 e1 e2 h h').trans (congrArg some (decide_eq_decide.mpr ⟨congrArg NK.t,NK.t.inj⟩))) h') h
theorem L0:∀{x y:List D} {k k':List NK},Pe x=some k→Pe y=some k'→Y8 x=true→Y8 y=true→Mh [] x y=some (decide (k=k'))
 | [],[],k,k',e,e',_,_=>by cases e;cases e';rfl
 | [],y::ys,k,k',e,e',_,_=>Rz e' fun a l _ _ z=>by cases e;rw[z];rfl
 |x::xs,[],k,k',e,e',_,_=>Rz e fun a l _ _ z=>by cases e';rw[z];rfl
 |x::xs,y::ys,k,k',e,e',h,h'=>Rz e fun a l e1 e2 z=>Rz e' fun a' l' e3 e4 z'=>by
  show Zav (eqD [] x y) (Mh [] xs ys)=_;rw[Zf4 e1 e3 (a2 h).1 (a2 h').1,L0 e2 e4 (a2 h).2 (a2 h').2,Of,z,z'];exact congrArg some (decide_eq_decide.mpr List.cons_eq_cons.symm)
theorem Fh{x y:List D}{k k':List NK}(e:Pe x=some k)(e':Pe y=some k')(h:Y8 x=true)(h':Y8 y=true):eqT x y=decide (k=k'):=by unfold eqT;rw[L0 e e' h h']
theorem Kv{xs:List D}(h:C8 (.tuple xs)=true){P:Prop}(k:Y8 xs=true→∀ks,Pe xs=some ks→P):P:=Yp h fun h1 h2=>Ro h2 (k h1)
theorem Oh{k:List NK}{x:Addr×Value}{r:List (List NK×Addr×Value)}:atKey ((k,x)::r) k=some x:=by unfold atKey;rw[List.find?_cons_of_pos (by simp)];rfl
theorem Oi{k i:List NK}{x:Addr×Value}{r:List (List NK×Addr×Value)}(h:k≠i):atKey ((k,x)::r) i=atKey r i:=by unfold atKey;rw[List.find?_cons_of_neg (by simpa using h)]
theorem NkEnts.get{i:List D}{ks:List NK}{r:Option V}(e1:Pe i=some ks)(e2:Y8 i=true):∀{es:List (D×V)} {xs:List (List NK×Addr×Value)},NkEnts C σ ρ h es xs→getD? es (.tuple i)=some r→
 (r=none∧atKey xs ks=none)∨∃v b x,r=some v∧atKey xs ks=some (b,x)∧VR C σ ρ h v x
 | [],xs,e,g=>by rw[show xs=[] from e];exact .inl ⟨(sj g).symm,rfl⟩
 |(k,u)::es,xs,e,g=>NkEnts.cons_e (M:=fun k xs=>getD? ((k,u)::es) (.tuple i)=some r→(r=none∧atKey xs ks=none)∨∃v b x,r=some v∧atKey xs ks=some (b,x)∧VR C σ ρ h v x) e (fun ds kk b x xs' d3 d4 d5 d6 d7 g=>
    Za (x:=W8 (.tuple ds) (.tuple i)) g fun t e g=>by
     have e:eqT ds i=t:=sj e;rw[Fh d3 e1 d4 e2] at e;refine Vc (x:=some (some u)) (y:=getD? es (.tuple i)) g (fun ht g=> ?_) fun ht g=> ?_
     ·rw[ht] at e
      rw[of_decide_eq_true e];exact .inr ⟨u,b,x,(sj g).symm,Oh,d6⟩
     ·rw[ht] at e
      rw[Oi (of_decide_eq_false e)]
      exact NkEnts.get e1 e2 d7 g) g
theorem Yhl{d:D}{A B:Prop}(e:dk d A B)(h:∀i,d≠ .int i):B:=by
 cases d with
 |int i=>exact(h i rfl).elim
 |_=>exact e
theorem Cc{es:List (D×V)}{i:List D}{r:Option V}(g:getD? es (.tuple i)=some r)(p:D×V)(l:List (D×V))(e:es=p::l):∀j,p.1≠ .int j:=fun j z=>by
 rw[e] at g;exact Za (x:=W8 p.1 (.tuple i)) g fun b e _=>by rw[z] at e;exact nn e
theorem DictRep.nk{a:Addr}{es:List (D×V)}(e:DictRep C σ ρ h a es)(g:∀p r,es=p::r→∀i,p.1≠ .int i):∃xs,h.DictOfH (Nb C.prog C.wld) a xs∧NkEnts C σ ρ h es xs:=by
 cases es with
 |nil=>exact e.elim fun o e=>e.elim fun ep e=>⟨[],⟨o,#[],ep,e.1,e.2.1,e.2.2,rfl,fun _ he=>by simp at he,List.nodup_nil⟩,rfl⟩
 |cons p r=>exact Yhl (d:=p.1) e (g p r rfl)
theorem DictRep.obj{a:Addr}{es:List (D×V)}(e:DictRep C σ ρ h a es):∃o,h.get? a=some o∧o.ExactDict:=by
 cases es with
 |nil=>exact e.elim fun o e=>e.elim fun ep e=>⟨o,e.1,e.2.1⟩
 |cons p r=>exact Ya3 (d:=p.1) e (fun e=>e.elim fun kvs e=>e.1.elim fun o e=>e.elim fun _ e=>e.elim fun _ e=>⟨o,e.1,e.2.1⟩) fun e=>e.elim fun kvs e=>e.1.elim fun o e=>e.elim fun _ e=>e.elim fun _ e=>⟨o,e.1,e.2.1⟩
theorem Hl(hl:Fs (C.get σ n)=true):∃es,C.get σ n=some (.dict es):=by
 cases hg:C.get σ n with
 |none=>rw[hg] at hl;exact nf hl
 |some o=>
  rw[hg] at hl;cases o with
  |dict es=>exact⟨es,rfl⟩
  |_=>exact nf hl
theorem Zyt(H:ZOk Z){e k dd:Clo}{o y z:Expr}{n:Str}{ap p:Pos}(he:S2 Z e o)(hk:S2 Z k y)(hd:S2 Z dd z)(hb:Y5 o=true)(hl:(ap.endLine == p.line)=true)(hn:Zs n "get"=true):S2 Z (Zs5 Z.C.T e k dd) (.Call (.Attribute o n ap) [y,z] [] p):=by
 rw[strB_iff.mp hn];refine .of (fun lo σ v σ' ev=>Zax ev fun n σ1 h1 ev=>Zl ev fun h2 ev=>Zaw ev fun key σ2 h3 ev=>Yk ev fun dv σ3 h4 ev=>Jo ev fun es h5 ev=>Zl ev fun h6 ev=>Za ev fun res h7 ev=>Z0 ev fun A s ρ Q E P q=> ?_) rfl;refine wpAny_Call_method2_late (Yl hb _) hl (by rw[Zh hk.p,Zh hd.p];rfl) (he.s lo σ _ σ1 h1 A s ρ _ _ P fun ρ1 s1 w P1 k1 v1=>v1.loc_e fun hdm=> ?_);obtain⟨es1,hg⟩:=Hl h2;obtain⟨ob,t1,t2⟩:=DictRep.obj (P1.r.rep n _ hg);have nsys:=Ea P1.r hg nofun;refine⟨"dict","dict.get",PySem.F.plainAttrs_dict,PySem.F.slot_dict_get,PySem.F.type_dict_get,⟨ob,t1,t2.1⟩,fun b hb=>by cases hb;exact⟨_,t1,t2.2.1⟩,?_⟩;have q:=q.after k1;have run:=fun(K:Value→Value→Shared→Prop) (hK:∀ρ' s' u w,Pre Z lo A s' σ3 ρ'→Ext Z.C σ1 ρ1 s1 σ3 ρ' s'→VR Z.C σ3 ρ' s'.heap (.dat key) u→VR Z.C σ3 ρ' s'.heap dv w→K u w s')=>two (E:=E) hk.s hd.s h3 h4 P1 hK;cases key with
 |int i=>
  refine wpAny_dict_get2 (knd:=intKind Z.C.prog Z.C.wld) nsys (run _ fun ρ3 s3 u w P3 k3 v2 v3=> ?_);have rep:DictRep Z.C σ3 ρ3 s3.heap (ρ3 (.id n)) es:=P3.r.rep n _ h5;rw[k3.rho _ hdm] at rep;refine v2.int_e fun tk=>(DictRep.ints rep (Kb h7)).elim fun kvs d=>⟨i,_,by rw[show Z.C.ν i=i from Zo H.X.v0 h6];exact intKind_is Z.C.prog Z.C.wld i tk,d.1.mapOf,?_⟩;rcases d.2.look h7 with z |⟨vv,zz,rfl,z1,z2⟩
  ·rw[z.2];exact(q.after k3).tok P3 (z.1 ▸ v3)
  ·rw[z1];exact(q.after k3).tok P3 z2
 |tuple i=>
  refine Kv h6 fun l1 ks l2=> ?_;refine wpAny_dict_get2_heap (knd:=Nb Z.C.prog Z.C.wld) P.rm.u65 nsys (run _ fun ρ3 s3 u w P3 k3 v2 v3=> ?_);have rep:DictRep Z.C σ3 ρ3 s3.heap (ρ3 (.id n)) es:=P3.r.rep n _ h5;rw[k3.rho _ hdm] at rep;have v2:RdD s3.heap (Own Z.C σ3 ρ3) (.tuple (mDs Z.C.ν i)) u:=v2;rw[Va H.X.v0 l1] at v2;refine(RdD.tup_e (M:=fun u=>∃b,u= .ref b) v2 fun b _ _ _ _ _ _ _ _=>⟨b,rfl⟩).elim fun b e=>(DictRep.nk rep (Cc h7)).elim fun xs d=>⟨b,ks,xs,e,Ak l2 v2 e,d.1,?_⟩;rcases d.2.get l2 l1 h7 with z |⟨vv,bb,zz,rfl,z1,z2⟩
  ·rw[z.2];exact(q.after k3).tok P3 (z.1 ▸ v3)
  ·rw[z1];exact(q.after k3).tok P3 z2
 |_=>exact nf h6
theorem Oj{nm:Str}:∀{vs:List V} {as:List Nat} {es:List DictEntry},Atts C σ ρ h as vs es→(∀b∈as,C.nm b≠nm)→es.find? (fun e=>e.key.isStr nm)=none∧es.any (·.refKey)=false
 | [],as,es,A,hn=>by
   have e:es=[]:=by cases as <;> exact A
   rw[e];exact⟨rfl,rfl⟩
 |u::vs,as,es,A,hn=>A.cons_e (M:=fun as es=>(∀b∈as,C.nm b≠nm)→es.find? (fun e=>e.key.isStr nm)=none∧es.any (·.refKey)=false) (fun x as e es' tk k1 k2 k3 hn=>by
  have ih:=Oj k3 fun b hb=>hn b (.tail _ hb);rw[List.find?_cons_of_neg (by rw[k1];exact Sz (hn x (.head _))),List.any_cons,ih.2,Bool.or_false];refine⟨ih.1,?_⟩;unfold DictEntry.refKey
  rw[k1]) hn
theorem V9{env:Env}{es:List Expr}{pos:Pos}(h:es.all Z1=true):backTo pos (starEach es env)=es.map fun e=>(false,eval e env):=by rw[To h];unfold backTo;rw[List.map_map];rfl
theorem Zoo(H:ZOk Z){cf:Nat→List V→St→Res}(hcf:SoundCF Z.C Z.d cf){e:Clo}{a f:Nat}{args:Q3}{o y:Expr}{ys:List Expr}{n:Str}{ap p:Pos}(he:S2 Z e o)(ha:SL Z args (y::ys))(hb:Y5 o=true)(hl:(ap.endLine == p.line)=true)(hn:Zs (Z.t.an a) n=true)(few:Nat.blt (y::ys).length 20=true):
 S2 Z (Hc Z.C.T cf e a f args) (.Call (.Attribute o n ap) (y::ys) [] p):=by
 rw[← strB_iff.mp hn,H.N.an];refine .of (fun lo σ v σ' ev=>Zax ev fun n σ1 h1 ev=>Td ev fun c us h2 ev=>Za ev fun g h3 ev=>Zl ev fun h4 ev=>Yk ev fun vs σ2 h5 ev A s ρ Q E P q=> ?_) rfl;rw[← Nat.eq_of_beq_eq_true h4] at h3;have M:=H.X.meth c a f h3;have hform:methodCallForm ((y::ys).length + ([]:List Keyword).length) (backTo p (starEach (y::ys) Z.env)) (backToKw p (keywordEach [] Z.env))=true:=by
  rw[V9 ha.p];unfold methodCallForm;rw[Bool.and_eq_true,Bool.and_eq_true];exact⟨⟨by rw[List.all_map];simp,rfl⟩,decide_eq_true (Nat.lt_trans (Zz few) (by decide))⟩
 rw[arm_eval_Call,Yl hb];refine wpAny_bind (he.s lo σ _ σ1 h1 A s ρ _ _ P fun ρ1 s1 w P1 k1 v1=>v1.loc_e fun hdm=> ?_);refine wpAny_bind (wpAny_standAt ?_);unfold methodCall;rw[hform];obtain⟨ob,fd,g2,g3⟩:=M.ob;obtain⟨i1,es,ep,i2,i3⟩:=P1.r.rep n _ h2;have I:InstAt s1.heap (ρ1 (.id n)) _ (Z.C.cl c) (some _):=⟨i1,rfl,rfl,i2⟩;have z:=Oj i3 M.nat;have hs:shadowIn (some (⟨.type "dict",none,.dict es ep,#[]⟩:Obj)) (Z.C.nm a)=some false:=by
  unfold shadowIn lookIn;dsimp only;rw[z.1,z.2];rfl
 refine wpAny_bind (wpAny_holding (method_fn P1.r.fr I M.ga M.no M.fn M.ty hs ?_));refine wpAny_bind (wpAny_of_eq (show methodCallPos true o Z.env ap p=pure p by unfold methodCallPos;simp[hl]) ?_);have args:=ha.s lo σ1 vs σ2 h5 A s1 ρ1 p (fun vs s₁=>(s₁.heap.get? (Z.C.fa f)=some ob∧ob.data= .func fd)∧Z.wp A (PySem.call (.ref (Z.C.fa f)) ([.ref (ρ1 (.id n))]++vs)) Q E s₁) E P1 fun ρ2 s2 xs P2 k2 v2=>
  ⟨⟨P2.r.fr _ _ g2,g3⟩,hcf.go ev P2 ⟨_,xs,rfl,⟨by rw[k2.rho _ hdm],k2.dom _ hdm⟩,v2⟩ (q.after (k1.trans k2))⟩
 rw[Zh (a2 ha.p).1] at args ⊢;exact callWith_function (o:=ob) (fd:=fd) (evalArgs_plain args)
theorem M7{A:Around}{d:Nat}(r:Room A d)(c:Addr)(xs:List Value)(kw:List (Str×Value)):RoomC (A.under (.builtin "type.__call__" ⟨.ref c::xs,kw⟩)) d:=by
 have hw:(Code.builtin "type.__call__" ⟨.ref c::xs,kw⟩).weight=1:=by kernel_rfl
 have hc:(Code.builtin "type.__call__" ⟨.ref c::xs,kw⟩).cUnits=1:=by kernel_rfl
 have h1:=r.2.1;have h2:=r.2.2;refine⟨r.1,?_,?_⟩
 ·show A.depth + (Code.builtin "type.__call__" ⟨.ref c::xs,kw⟩).weight + 3 * d + 8 < 1000
  omega
 ·show A.units + (Code.builtin "type.__call__" ⟨.ref c::xs,kw⟩).cUnits + 20 * d + 290 < 9900
  omega
def Zde(ρ:Rho)(n:Nat)(a:Addr):Rho:=fun l=>if l= .id n then a + 1 else if l= .idd n then a else ρ l
theorem R.push_inst{s:Shared}(r:R C σ ρ s.heap)(c:Nat):R C (Zy σ (.inst c [])).2 (Zde ρ σ.next s.heap.objs.size) ((s.heap.push emptyDict).push (instObj (C.cl c) s.heap.objs.size))∧Ext C σ ρ s (Zy σ (.inst c [])).2 (Zde ρ σ.next s.heap.objs.size) {s with heap:=(s.heap.push emptyDict).push (instObj (C.cl c) s.heap.objs.size)}:=by
 have k:∀b o,s.heap.get? b=some o→((s.heap.push emptyDict).push (instObj (C.cl c) s.heap.objs.size)).get? b=some o:=fun b o e=>Heap.get?_push_of_some _ (Heap.get?_push_of_some _ e);have e1:Zde ρ σ.next s.heap.objs.size (.id σ.next)=s.heap.objs.size + 1:=if_pos rfl;have e2:Zde ρ σ.next s.heap.objs.size (.idd σ.next)=s.heap.objs.size:=(if_neg nofun).trans (if_pos rfl);have g1:s.heap.get? (s.heap.objs.size + 1)=none:=by
  cases q:s.heap.get? (s.heap.objs.size + 1) with
  |none=>rfl
  |some x=>exact absurd (Heap.lt_size q) (Nat.not_lt.mpr (Nat.le_succ _))
 have z:=r.new (σ':=(Zy σ (.inst c [])).2) (ρ':=Zde ρ σ.next s.heap.objs.size) (o:= .inst c []) k rfl (fun l h1 h2=>(if_neg h1).trans (if_neg h2))
  (by rw[e1];exact g1) (fun _=>⟨by rw[e2];exact Zv _,by rw[e1,e2];exact Nat.succ_ne_self _⟩) (fun st _ _=>by
    refine⟨?_,#[],0,?_,?_⟩
    ·rw[e1,e2]
     have:((s.heap.push emptyDict).push (instObj (C.cl c) s.heap.objs.size)).get? (s.heap.objs.size + 1)=some (instObj (C.cl c) s.heap.objs.size):=by heap_get
     exact this
    ·rw[e2]
     have:((s.heap.push emptyDict).push (instObj (C.cl c) s.heap.objs.size)).get? s.heap.objs.size=some emptyDict:=by heap_get
     exact this
    ·cases C.T.attrs c <;> rfl)
 exact⟨z.1,z.2.1,z.2.2.1,z.2.2.2,rfl,rfl⟩
theorem Yj3(H:ZOk Z){cf:Nat→List V→St→Res}(hcf:SoundCF Z.C Z.d cf){c:Nat}{args:Q3}{n:Str}{es:List Expr}{j:Nat}{np p:Pos}(ha:SL Z args es)(hj:okN Z.t .globalImplicit j n=true)(hn:Zs (Z.t.cn c) n=true)(hc:Nat.blt c 6=true)(h0:es=[]→∀lo σ,args lo σ=some ([],σ)):S2 Z (eMk Z.C.T cf c args) (.Call (.Name n np) es [] p):= .of (fun lo σ v σ' ev=>Yk ev fun vs σ1 h1 ev=>Zaw ev fun d σ3 h2 ev=>Zej (M:=fun d=>cf (Z.C.T.init c) ((Zy σ1 (.inst c [])).1::vs) (Zy σ1 (.inst c [])).2=some (.dat d,σ3)→_) ev (fun ev h2=>Z0 ev fun A s ρ Q E P q=>by
 have o:=Ym H.N hj;have K:=H.X.cls c (Zz hc);refine Call_ (Ky H o.2.1 o.2.2 (by rw[← strB_iff.mp hn,H.N.cn];exact H.X.cg c (Zz hc)) P.r.fr ?_);have fin:∀ρ1 s1 xs,Pre Z lo A s1 σ1 ρ1→Ext Z.C σ ρ s σ1 ρ1 s1→VRs Z.C σ1 ρ1 s1.heap vs xs→Z.wp A (PySem.call (.ref (Z.C.cl c)) ([]++xs)) Q E s1:=fun ρ1 s1 xs P1 k1 v1=>by
  obtain⟨hh,g,dd,tt,os⟩:=s1;have z:=R.push_inst (s:=⟨hh,g,dd,tt,os⟩) P1.r c;dsimp only at z;have e:Zde ρ1 σ1.next hh.objs.size (.id σ1.next)=hh.objs.size + 1:=if_pos rfl;refine wpAny_call (make_core (makes_of P1.r.fr K.makes) (looks_findIn P1.r.fr K.init) (fun self=>bind_fn P1.r.fr self K.initF) (.inl rfl) ?_);refine hcf _ _ _ _ _ h2 _ _ (M7 P.rm _ _ _) z.1 ⟨_,xs,rfl,⟨by rw[e],Nat.lt_succ_self _⟩,v1.ext z.2⟩ fun ρ3 s3 x r3 k3 v3=>⟨v3,(q.after k1).to P1 r3 (z.2.trans k3) ⟨?_,k3.dom _ (Nat.lt_succ_self _)⟩⟩;rw[k3.rho _ (Nat.lt_succ_self _),e]
 cases es with
 |nil=>
  rw[h0 rfl] at h1;cases h1;exact callWith_K0 P.r.fr K.keep (fin ρ s [] P (.refl ..) rfl)
 |cons e es=>
  refine callWith_K (h₀:=s.heap) P.r.fr K.keep (ha.s lo σ vs σ1 h1 A s ρ p _ _ P fun ρ1 s1 xs P1 k1 v1=>⟨P1.r.fr,fin ρ1 s1 xs P1 k1 v1⟩) (Zh (a2 ha.p).1) ?_;rw[V9 (a2 ha.p).2,List.any_map]
  simp) h2) rfl
end
set_option genInjectivity false
section
variable{Z:Zx}{C:Cx}{A:Around}{s:Shared}{σ:St}{ρ:Rho}
structure SrcAt(C:Cx)(A:Around)(σ:St)(ρ:Rho)(F:Addr→Prop)(h0:Heap)(ds:List D)(I:Addr)(h:Heap)(fp:List Addr)(P:Nat→Value→Prop)(St:Nat→Heap→Prop):Prop where
 walks:Walks C.prog C.wld A I fp [I] ds.length P St
 st:St 0 h
 inn:I∈fp
 lt:∀b∈fp,b < h.objs.size
 fpo:∀b∈fp,b≠I→F b∧∃o vs n,h0.get? b=some o∧o.data= .seq vs n
 go:∀i (s':Shared) (target:Expr) (v:Value) (Q:Unit→Shared→Prop) (E:Value→Shared→Prop),St i s'.heap→Q () s'→wpAny (model C.prog C.wld) A (letOwnedTupleGo target (.ref I) v) Q E s'
 noseq:∀i h,St i h→∃o,h.get? I=some o∧∀vs n,o.data≠ .seq vs n
 items:∀j v,P j v→∃dd,ds[j]? =some dd∧RdD h0 (Own C σ ρ) (mD C.ν dd) v
 new:h0.get? I=none
 keep:∀b o,h0.get? b=some o→h.get? b=some o
 lin:I < h.objs.size
theorem Wg{M:Model}{E:Value→Shared→Prop}{target:Expr}{I:Addr}{v:Value}{Q:Unit→Shared→Prop}{o:Obj}{cn:String}{vs:Array Value}(ho:s.heap.get? I=some o)(hc:o.cls= .type cn)(hd:o.data= .fields vs)
 (hn:["enumerate","zip","dict_itemiterator","dict_reverseitemiterator","odict_iterator","itertools.zip_longest","itertools.pairwise"].contains cn=false) (h:Q () s):wpAny M A (letOwnedTupleGo target (.ref I) v) Q E s:=by
 unfold letOwnedTupleGo;cases target with
 |Tuple a b c=>
  cases v with
  |ref t=>
   refine wpAny_bind (wpAny_load ho ?_);rw[hc,hd];dsimp only;rw[hn,Bool.false_and,if_neg (by decide)];exact wpAny_pure h
  |_=>exact wpAny_pure h
 |List a b=>
  cases v with
  |ref t=>
   refine wpAny_bind (wpAny_load ho ?_);rw[hc,hd];dsimp only;rw[hn,Bool.false_and,if_neg (by decide)];exact wpAny_pure h
  |_=>exact wpAny_pure h
 |_=>exact wpAny_pure h
theorem RdDs.got{h:Heap}{P:Addr→Prop}{ν:Int→Int}:∀{j:Nat} {v:Value} {l:List D} {vs:List Value},RdDs h P (mDs ν l) vs→vs[j]? =some v→∃d,l[j]? =some d∧RdD h P (mD ν d) v
 |j,v,[],vs,r,e=>by rw[show vs=[] from r] at e;exact nn e
 |0,v,d::l,vs,r,e=>RdDs.cons_e (r:=mDs ν l) (M:=fun vs=>vs[0]? =some v→∃d',(d::l)[0]? =some d'∧RdD h P (mD ν d') v) r (fun u us h1 h2 e=>⟨d,rfl,Option.some.inj (List.getElem?_cons_zero.symm.trans e) ▸ h1⟩) e
 |j + 1,v,d::l,vs,r,e=>RdDs.cons_e (r:=mDs ν l) (M:=fun vs=>vs[j + 1]? =some v→∃d',(d::l)[j + 1]? =some d'∧RdD h P (mD ν d') v) r (fun u us h1 h2 e=>RdDs.got (j:=j) h2 e) e
theorem Zql{a b c:Nat}(h:b∈[a,c]):b=a∨b=c:=(List.mem_cons.mp h).imp id List.mem_singleton.mp
theorem Uv{o:Obj}{vs:Array Value}(h:o.data= .fields vs)(us:Array Value)(n:Nat):o.data≠ .seq us n:=fun e=>nomatch h.symm.trans e
theorem N0{F:Addr→Prop}{ds:List D}{a:Addr}{items:Array Value}(hh:A.handled=none)(la:IsLx s.heap a items)(ra:RdDs s.heap (Own C σ ρ) (mDs C.ν ds) items.toList)(hF:F a)
 (Q:Value→Shared→Prop) (E:Value→Shared→Prop) (q:∀I h fp P St,SrcAt C A σ ρ F s.heap ds I h fp P St→Q (.ref I) {s with heap:=h}):wpAny (model C.prog C.wld) A (pyIter (.ref a)) Q E s:=by
 have hsz:items.size=ds.length:=by rw[← Array.length_toList,ra.len,Y3]
 obtain⟨n,ho⟩:=id la;have hlt:=Heap.lt_size ho
 refine wpAny_pyIter_list la.list (q _ _ [s.heap.objs.size,a] (fun i v=>items[i]? =some v) (fun i h=>h.IsListIter s.heap.objs.size a i∧h.IsList a items) ⟨hsz ▸ Walks.list hh _ a (Nat.ne_of_lt hlt) items,
  ⟨⟨_,Heap.get?_push_size _ rfl,rfl,rfl⟩,la.list.at fun o e=>Heap.get?_push_of_some _ e⟩,.head _,fun b hb=> ?_,fun b hb hne=>(Zql hb).elim (fun e=>(hne e).elim) fun e=>e ▸ ⟨hF,_,_,_,ho,rfl⟩,fun i s' tg v Q' E' st q'=>st.1.elim fun o st=>Wg st.1 st.2.1 st.2.2 (by decide) q',fun i h st=>st.1.elim fun o st=>⟨o,st.1,Uv st.2.2⟩,
  fun j v hP=>ra.got ((Array.getElem?_toList).trans hP),Zv _,fun b o e=>Heap.get?_push_of_some _ e,by rw[Heap.size_push];exact Nat.lt_succ_self _⟩)
 rw[Heap.size_push];exact(Zql hb).elim (fun e=>e ▸ Nat.lt_succ_self _) fun e=>e ▸ Nat.lt_succ_of_lt hlt
theorem Ib{F:Addr→Prop}{ds:List D}{a:Addr}{o:Obj}{items:Array Value}{n:Nat}(hh:A.handled=none)(la:s.heap.get? a=some o)(ca:o.cls= .type "tuple")(da:o.data= .seq items n)(ra:RdDs s.heap (Own C σ ρ) (mDs C.ν ds) items.toList)(hF:F a)
 (Q:Value→Shared→Prop) (E:Value→Shared→Prop) (q:∀I h fp P St,SrcAt C A σ ρ F s.heap ds I h fp P St→Q (.ref I) {s with heap:=h}):wpAny (model C.prog C.wld) A (pyIter (.ref a)) Q E s:=by
 have hsz:items.size=ds.length:=by rw[← Array.length_toList,ra.len,Y3]
 have hlt:=Heap.lt_size la;have hT:s.heap.IsTuple a items:=⟨o,la,ca,n,da⟩
 refine wpAny_pyIter_tuple hT (q _ _ [s.heap.objs.size,a] (fun i v=>items[i]? =some v) (fun i h=>h.IsTupleIter s.heap.objs.size a i∧h.IsTuple a items) ⟨hsz ▸ Walks.tuple hh _ a (Nat.ne_of_lt hlt) items,
  ⟨⟨_,Heap.get?_push_size _ rfl,rfl,rfl⟩,hT.at fun o e=>Heap.get?_push_of_some _ e⟩,.head _,fun b hb=> ?_,fun b hb hne=>(Zql hb).elim (fun e=>(hne e).elim) fun e=>e ▸ ⟨hF,_,_,_,la,da⟩,fun i s' tg v Q' E' st q'=>st.1.elim fun o st=>Wg st.1 st.2.1 st.2.2 (by decide) q',fun i h st=>st.1.elim fun o st=>⟨o,st.1,Uv st.2.2⟩,
  fun j v hP=>ra.got ((Array.getElem?_toList).trans hP),Zv _,fun b o e=>Heap.get?_push_of_some _ e,by rw[Heap.size_push];exact Nat.lt_succ_self _⟩)
 rw[Heap.size_push];exact(Zql hb).elim (fun e=>e ▸ Nat.lt_succ_self _) fun e=>e ▸ Nat.lt_succ_of_lt hlt
theorem Nh{h:Heap}{P:Addr→Prop}{ν:Int→Int}:∀{l:List Int} {vs:List Value},Nums ν l vs→RdDs h P (mDs ν (l.map PyData.int)) vs
 | [],vs,e=>e
 |i::r,vs,e=>Nums.cons_e (M:=fun vs=>RdDs h P (mDs ν ((i::r).map PyData.int)) vs) e fun tk vs' h2=>⟨_,vs',rfl,⟨tk,rfl⟩,Nh h2⟩
theorem Ic(hh:A.handled=none)(r:R C σ ρ s.heap){v:V}{ds:List D}{x:Value}(e:O4 σ v=some ds)(vx:VR C σ ρ s.heap v x)
 (Q:Value→Shared→Prop) (E:Value→Shared→Prop) (q:∀I h fp P St,SrcAt C A σ ρ (fun b=>(∃dd,v= .dat dd)→¬Own C σ ρ b) s.heap ds I h fp P St→Q (.ref I) {s with heap:=h}):wpAny (model C.prog C.wld) A (pyIter x) Q E s:=by
 cases v with
 |dat dd=>
  cases dd with
  |list xs=>cases sj e;exact vx.list_e fun a vs n pa la ra _=>N0 hh ⟨n,la⟩ ra (fun _=>pa) Q E q
  |tuple xs=>cases sj e;exact vx.tup_e fun a o vs n pa la ca da ra _=>Ib hh la ca da ra (fun _=>pa) Q E q
  |_=>exact nn e
 |loc l=>
  cases l with
  |arr k=>
   exact Za e fun w hw e=>Za e fun xs hx e=>by
    cases sj e;exact vx.loc_e fun _=>(r.rw w hw).arr_e hx fun items l1 l2=>N0 hh l1 (Nh l2) (fun z=>z.elim nofun) Q E q
  |_=>exact nn e
theorem Yw{n:Int}:(Xc n).length=n.toNat:=by unfold Xc;rw[List.length_map,List.length_range]
theorem Qs{mg mb:Str→Option Value}(X:Vr C mg mb)(hh:A.handled=none){F:Addr→Prop}{n:Int}{a:Addr}{t1 t2 t3:Tok}(hn:leN n 100000=true)(hr:IsRange s.heap a 0 n 1 t1 t2 t3)
 (Q:Value→Shared→Prop) (E:Value→Shared→Prop) (q:∀I h fp P St,SrcAt C A σ ρ F s.heap (Xc n) I h fp P St→Q (.ref I) {s with heap:=h}):wpAny (model C.prog C.wld) A (pyIter (.ref a)) Q E s:=by
 have b:=Ww hn;have hsmall:Builtin.Range.small 0 n 1=true:=small_one (by decide) (by decide) (Int.le_trans (by decide) b.1) (Int.lt_of_le_of_lt b.2 (by decide));have hsize:Builtin.Range.rangeSize 0 n 1=(n.toNat:Int):=by rw[rangeSize_one];split <;> omega
 refine wpAny_pyIter_range hr hsmall (q _ _ [s.heap.objs.size] (fun i v=>i < n.toNat∧∃t,v= .int (0 + i * 1) t) (fun i h=>IsRangeIter h s.heap.objs.size (0 + (i:Nat) * 1) ((n.toNat:Int) - (i:Nat)) 1) ⟨by rw[Yw];exact(Walks.range hh _ 0 1 n.toNat).bound,?_,.head _,fun b hb=> ?_,fun b hb hne=>(hne (List.mem_singleton.mp hb)).elim,fun i s' tg v Q' E' st q'=>Wg st rfl rfl (by decide) q',fun i h st=>⟨_,st,fun vs n e=>nomatch e⟩,fun j v hP=> ?_,Zv _,fun b o e=>Heap.get?_push_of_some _ e,by rw[Heap.size_push];exact Nat.lt_succ_self _⟩)
 ·show IsRangeIter _ _ _ _ _
  rw[hsize]
  simpa using Heap.get?_push_size _ rfl
 ·rw[Heap.size_push,List.mem_singleton.mp hb]
  exact Nat.lt_succ_self _
 ·refine hP.2.elim fun tk e=>⟨.int j,?_,tk,?_⟩
  ·unfold Xc
   rw[List.getElem?_map,List.getElem?_range hP.1];rfl
  ·rw[e,show C.ν (j:Int)=j from Zo X.v0 (K9 (Nat.le_trans (Nat.le_of_lt hP.1) (Int.toNat_le.mpr b.2))),Int.mul_one,Int.zero_add]
theorem R.new_at{h':Heap}{tk:Nat}{D:Addr}(r:R C σ ρ s.heap){o:O}(hi:∀c vs,o≠ .inst c vs)(k:∀b x,s.heap.get? b=some x→h'.get? b=some x)(hD:s.heap.get? D=none)
 (q:∀ρ',Stays s.heap (Own C σ ρ) h' (Own C (Zy σ o).2 ρ')→ρ' (.id σ.next)=D→RepO C (Zy σ o).2 ρ' h' σ.next o):
 R C (Zy σ o).2 (upd ρ (.id σ.next) D) h'∧Ext C σ ρ s (Zy σ o).2 (upd ρ (.id σ.next) D) {s with heap:=h',toks:=tk}∧VR C (Zy σ o).2 (upd ρ (.id σ.next) D) h' (Zy σ o).1 (.ref D):=by
 have e1:upd ρ (.id σ.next) D (.id σ.next)=D:=if_pos rfl;have z:=r.new (σ':=(Zy σ o).2) (ρ':=upd ρ (.id σ.next) D) (o:=o) (h':=h') k rfl (fun l h1 _=>if_neg h1) (by rw[e1];exact hD) (fun z=>z.elim fun c z=>z.elim fun vs e=>(hi c vs e).elim) (fun st hd hr=>q _ st e1);exact⟨z.1,⟨z.2.1,z.2.2.1,z.2.2.2,rfl,rfl⟩,congrArg Value.ref e1.symm,Nat.lt_succ_self _⟩
def Ru(ce:CE)(v y:Value):Prop:=CE.rec (fun i=>∃t,y= .int i t) (y=v) (fun _=>False) ce
structure ScOk(sc:Scope)(x:Str):Prop where
 kind:sc.kind= .function
 names:sc.names=[(Str.ofString ".0",NameKind.local),(x,NameKind.local)]
 ne:(x == Str.ofString ".0")=false
 dbg:(x == ("__debug__":Str))=false
theorem N1{x y:Str}(h:Zs x y=false):(x == y)=false:=beq_eq_false_iff_ne.mpr fun e=>nf (h.symm.trans (strB_iff.mpr e))
theorem Wq{sc:Scope}{x:Str}(h:Yc sc x=true):ScOk sc x:=by
 unfold Yc at h;simp only[Bool.and_eq_true,decide_eq_true_eq,Bool.not_eq_true'] at h;exact⟨h.1.1.1.1,h.1.1.1.2.1,N1 h.1.1.1.2.2,N1 h.2⟩
theorem ScOk.all{sc:Scope}{x:Str}(h:ScOk sc x){p:Str×NameKind→Prop}(a:p (Str.ofString ".0",.local))(b:p (x,.local)):∀y∈sc.names,p y:=by
 rw[h.names];exact fun y hy=>(List.mem_cons.mp hy).elim (fun e=>e ▸ a) fun hy=>List.mem_singleton.mp hy ▸ b
theorem ScOk.look{sc:Scope}{x:Str}(h:ScOk sc x):sc.names.lookup x=some .local:=by rw[h.names,List.lookup_cons,h.ne,List.lookup_cons,beq_self_eq_true]
theorem Keeps.refl'(s:Shared):Keeps s s:=⟨s.heap,s.toks,rfl,fun _ _ g=>g⟩
theorem Rc{env:Env}{sc:Scope}{x:Str}{elt:Expr}{ce:CE}{wr:List Addr}{P:Nat→Value→Prop}{s₂:Shared}(S:ScOk sc x)(he:Nj ce x elt=true):QuietOn C.prog C.wld A env sc x [] elt wr P (fun _=>true) (Ru ce) s₂:=by
 refine⟨fun K i v s₃ m₃ E' _ _ _ _ _=>wpAny_pure ⟨rfl,Keeps.refl' _⟩,fun K i v s₃ m₃ E' _ _ hn hm _ _=> ?_⟩;cases ce with
 |c j=>exact Xh he fun c _ _ he=>Pl he fun i he=>wpAny_Constant_int ⟨⟨s₃.toks,congrArg (Value.int · s₃.toks) (of_decide_eq_true (a2 he).1)⟩,s₃.heap,s₃.toks + 1,rfl,fun _ _ g=>g⟩
 |var=>
  exact Y2 he fun y p he=>by
   rw[strB_iff.mp he];exact wpAny_Name (wpAny_loadName_local S.kind S.look hn hm ⟨rfl,Keeps.refl' _⟩) S.dbg
 |mod _=>exact nf he
theorem H9{ce:CE}{x:Str}{elt:Expr}(he:Nj ce x elt=true):∀i,ce= .c i→Yo i=true:=by
 rintro i rfl;exact Xh (M:=fun _=>Yo i=true) he fun c _ _ he=>Pl (M:=fun _=>Yo i=true) he fun j he=>of_decide_eq_true (a2 he).1 ▸ (a2 he).2
theorem Vu{α:Type}:∀l:List α,l.filter (fun _=>true)=l
 | []=>rfl
 |a::l=>congrArg (a:: ·) (Vu l)
theorem Qo{h:Heap}{P:Addr→Prop}{ν:Int→Int}:∀{ds:List D} {vs:List Value},vs.length=ds.length→(∀(j:Nat) v,vs[j]? =some v→∃dd,ds[j]? =some dd∧RdD h P (mD ν dd) v)→RdDs h P (mDs ν ds) vs
 | [],[],_,_=>rfl
 | [],_::_,e,_=>nomatch e
 |_::_,[],e,_=>nomatch e
 |d::ds,v::vs,e,hp=>(hp 0 v rfl).elim fun dd z=>⟨v,vs,rfl,sj z.1 ▸ z.2,Qo (Nat.succ.inj e) fun j u hj=>hp (j + 1) u hj⟩
theorem Ln{mg mb:Str→Option Value}(X:Vr C mg mb){h:Heap}{P:Addr→Prop}{ce:CE}(hl:∀i,ce= .c i→Yo i=true):∀{ds ds':List D} {vs ys:List Value},RdDs h P (mDs C.ν ds) vs→ceL ce ds=some ds'→Paired (Ru ce) vs ys→RdDs h P (mDs C.ν ds') ys
 | [],ds',vs,ys,r,e,p=>by
   rw[show vs=[] from r] at p;cases p;exact sj e ▸ rfl
 |d::ds,ds',vs,ys,r,e,p=>RdDs.cons_e (r:=mDs C.ν ds) (M:=fun vs=>Paired (Ru ce) vs ys→RdDs h P (mDs C.ν ds') ys) r (fun v vs' r1 r2 p=>by
  cases p with
  |cons p1 p2=>
   exact Za (x:=ceF ce d) e fun x e1 e=>Za (x:=ceL ce ds) e fun l e2 e=>sj e ▸ ⟨_,_,rfl,by
    cases ce with
    |c i=>exact p1.elim fun tk p1=>sj e1 ▸ ⟨tk,by rw[p1,show C.ν i=i from Zo X.v0 (hl i rfl)]⟩
    |var=>rw[show _=v from p1];exact sj e1 ▸ r1
    |mod _=>exact p1.elim,Ln X hl r2 e2 p2⟩) p
def Iv(Z:Zx)(e:Expr)(lo:Zd)(σ:St)(ds:List D)(σ':St):Prop:=∀A s ρ Post E,Pre Z lo A s σ ρ→(∀ρ' s' G I h fp P St,Pre Z lo A s' σ' ρ'→Ext Z.C σ ρ s σ' ρ' s'→SrcAt Z.C A σ' ρ' G s'.heap ds I h fp P St→Post (.ref I) {s' with heap:=h})→
 Z.wp A (eval e Z.env) (fun xv s1=>Z.wp A (pyIter xv) Post E s1) E s
theorem S1(H:ZOk Z){a:Clo}{e:Expr}{lo:Zd}{n:Int}{σ':St}(ha:RgE Z a e)(h1:a lo σ=some (.dat (.int n),σ'))(h2:leN n 100000=true):Iv Z e lo σ (Xc n) σ':=fun A s ρ Post E P q=>
 ha lo σ n σ' h1 h2 A s ρ _ _ P fun ρ' s' b t1 t2 t3 P' k hb=>Qs (F:=fun _=>True) (σ:=σ') (ρ:=ρ') H.X P.rm.1 h2 hb Post E fun I h fp P St S=>q ρ' s' _ I h fp P St P' k S
theorem Kn{a:Clo}{e:Expr}{lo:Zd}{v:V}{ds:List D}{σ':St}(ha:G9 Z a e)(h1:a lo σ=some (v,σ'))(h2:O4 σ' v=some ds):Iv Z e lo σ ds σ':=fun A s ρ Post E P q=>
 ha lo σ v σ' h1 A s ρ _ _ P fun ρ' s' x P' k v=>Ic P.rm.1 P'.r h2 v Post E fun I h fp P St S=>q ρ' s' _ I h fp P St P' k S
theorem Yz{env:Env}{iter:Expr}(h:Z1 iter=true):∀x,foldedSetIterable iter env x=pure x:=fun x=>U5 (M:=fun iter=>foldedSetIterable iter env x=pure x) h (fun _ _ _ _=>rfl) (fun _ _ _ _ _=>rfl) (fun _ _ _ _=>rfl) (fun _ _ _ _ _=>rfl) (fun _ _ _ _=>rfl) (fun _ _ _ _ _=>rfl) (fun _ _ _ _ _=>rfl) (fun _ _ _ _ _=>rfl) (fun _ _ _ _=>rfl) (fun _ _ _ _=>rfl) (fun _ _ _ _=>rfl) (fun _ _ _=>rfl) (fun _ _ _=>rfl) (fun _ _ _ _=>rfl) (fun _ _ _ _ h=>nf h)
theorem Os{mg mb:Str→Option Value}(X:Vr C mg mb){md:Nat}{ce:CE}{x:Str}{elt:Expr}{G:Addr→Prop}{ds ds':List D}{I:Addr}{h:Heap}{fp:List Addr}{P':Nat→Value→Prop}{St:Nat→Heap→Prop}{σ':Mine.St}{v:V}{Dd:Addr}{h':Heap}{tk:Nat}{ys:Array Value}{vs:List Value}
 (r:R C σ ρ s.heap) (T:SrcAt C A σ ρ G s.heap ds I h fp P' St) (o1:Nj ce x elt=true) (hc:ceL ce ds=some ds') (hm:Ta md ds' σ=(v,σ')) (hD:h.get? Dd=none) (hp:h'.PlainList Dd ys) (hlen:vs.length=ds.length) (hP:∀(j:Nat) v,vs[j]? =some v→P' j v) (hF:Paired (Ru ce) (vs.filter fun _=>true) ys.toList)
 (k:∀b o,s.heap.get? b=some o→h'.get? b=some o):∃ρ',R C σ' ρ' h'∧Ext C σ ρ s σ' ρ' {s with heap:=h',toks:=tk}∧VR C σ' ρ' h' v (.ref Dd):=by
 have hD':s.heap.get? Dd=none:=by
  cases e:s.heap.get? Dd with
  |none=>rfl
  |some o=>rw[T.keep _ _ e] at hD;exact nn hD.symm
 rw[Vu] at hF;have rd:=Ln X (H9 o1) (Qo hlen fun j u hj=>T.items j u (hP j u hj)) hc hF;obtain⟨n,hl⟩:=hp;unfold Ta at hm;split at hm
 ·have z:=R.new_at (tk:=tk) r (o:= .dl ds'.reverse) nofun k hD' (fun ρ' st e1=>⟨ys,⟨n,e1 ▸ hl⟩,by rw[List.reverse_reverse];exact RdDs.stays st rd⟩)
  cases hm;exact⟨_,z⟩
 ·cases hm
  exact⟨ρ,r.grow k,.grow k rfl,Dd,ys,rfl,r.fresh hD',⟨n,hl⟩,RdDs.stays (P':=Own C σ ρ) ⟨fun b o _ g=>k b o g,fun _ _ n _=>n⟩ rd⟩
theorem Rw(H:ZOk Z){md:Nat}{ce:CE}{x:Str}{elt iter:Expr}{sc:Scope}{p yp:Pos}{lo:Zd}{ds ds':List D}{σ1 σ':St}{v:V}(hi:Iv Z iter lo σ ds σ1)(pl:Z1 iter=true)(o1:Nj ce x elt=true)(o2:Yc sc x=true)
 (hc:ceL ce ds=some ds') (hz:ds.length≤100000) (hm:Ta md ds' σ1=(v,σ')):WE Z (.ListComp elt [⟨.Name x yp,iter,[],0⟩] sc p) lo σ v σ':=fun A s ρ Q E P q=>by
 have S:=Wq o2;refine ListComp_rowsP (S.all nofun nofun) (S.all nofun nofun) S.kind (S.all (p:=fun y=>y.2= .local→sc.names.lookup y.1=some .local) (fun _=>by rw[S.names];rfl) fun _=>S.look) S.look (hi A s ρ _ _ P fun ρ1 s1 G I h fp P' St P1 k1 T=> ?_) (Yz pl);refine⟨fun _=>true,Ru ce,I,fp,[I],ds.length,P',St,rfl,T.walks,by rw[sizeLine_eq];exact Nat.le_trans hz (by decide),T.st,T.lt,Rc S o1,fun D h' tk ys vs hD hl hp hlen hP hF hk=> ?_⟩;exact(Os (tk:=tk) H.X P1.r T o1 hc hm hD hp hlen hP hF fun b o g=>hk b o (fun z=>by rw[List.mem_singleton.mp z,T.new] at g;exact nn g) (T.keep b o g)).elim fun ρ2 z=>(q.after k1).to P1 (s':={s1 with heap:=h',toks:=tk}) z.1 z.2.1 z.2.2
end
structure ExtL(C:Cx)(L:Addr)(σ:St)(ρ:Rho)(s:Shared)(σ':St)(ρ':Rho)(s':Shared):Prop where
 get:∀b o,b≠L→¬Own C σ ρ b→s.heap.get? b=some o→s'.heap.get? b=some o
 own:∀b o,b≠L→¬Own C σ ρ b→s.heap.get? b=some o→¬Own C σ' ρ' b
 dom:∀l,Dom σ l→Dom σ' l
 rho:∀l,Dom σ l→ρ' l=ρ l
 base:σ'.base=σ.base
 rest:Yn s'=Yn s
section
variable{C:Cx}{L:Addr}{σ σ' σ'':St}{ρ ρ' ρ'':Rho}{s s' s'':Shared}
theorem Ext.l(k:Ext C σ ρ s σ' ρ' s'):ExtL C L σ ρ s σ' ρ' s':=⟨fun b o _ n g=>k.stays.get b o n g,fun b o _ n g=>k.stays.own b o n g,k.dom,k.rho,k.base,k.rest⟩
theorem ExtL.trans(a:ExtL C L σ ρ s σ' ρ' s')(b:ExtL C L σ' ρ' s' σ'' ρ'' s''):ExtL C L σ ρ s σ'' ρ'' s'':=
 ⟨fun x o h n g=>b.get x o h (a.own x o h n g) (a.get x o h n g),fun x o h n g=>b.own x o h (a.own x o h n g) (a.get x o h n g),
   fun l d=>b.dom l (a.dom l d),fun l d=>(b.rho l (a.dom l d)).trans (a.rho l d),b.base.trans a.base,b.rest.trans a.rest⟩
theorem ExtL.refl(C:Cx)(L:Addr)(σ:St)(ρ:Rho)(s:Shared):ExtL C L σ ρ s σ ρ s:=(Ext.refl C σ ρ s).l
theorem Y4{h:Heap}{b:Addr}{o:Obj}{vs:Array Value}{n:Nat}(hn:∀o vs n,h.get? L=some o→o.data≠ .seq vs n)(g:h.get? b=some o)(e:o.data= .seq vs n):b≠L:=fun z=>hn _ _ _ (z ▸ g) e
theorem ExtL.q(k:ExtL C L σ ρ s σ' ρ' s')(hn:∀o vs n,s.heap.get? L=some o→o.data≠ .seq vs n):Z4 s.heap (Own C σ ρ) s'.heap (Own C σ' ρ'):=
 ⟨fun b o vs n nb g e=>k.get b o (Y4 hn g e) nb g,fun b o vs n nb g e=>k.own b o (Y4 hn g e) nb g⟩
theorem Ns.noSeq{h:Heap}{m:Str→Option Value}(x:h.Ns L m):∀o vs n,h.get? L=some o→o.data≠ .seq vs n:=by
 intro o vs n g e;obtain⟨o',es,ep,ho,hd,_⟩:=x;rw[sj (g.symm.trans ho),hd] at e;exact nomatch e
end
def FlR(C:Cx)(σ:St)(ρ:Rho)(h:Heap)(fl:Fl)(f:Flow):Prop:=Fl.rec (f= .next) (fun v=>∃x,f= .ret x∧VR C σ ρ h v x) fl
def KFl(Z:Zx)(A:Around)(s:Shared)(σ:St)(ρ:Rho)(fl:Fl)(lo':Zd)(σ':St)(Q:Flow→Shared→Prop):Prop:=∀ρ' s' f,Pre Z lo' A s' σ' ρ'→ExtL Z.C Z.env.locals σ ρ s σ' ρ' s'→FlR Z.C σ' ρ' s'.heap fl f→Q f s'
def WS(Z:Zx)(st:Stmt)(lo:Zd)(σ:St)(fl:Fl)(lo':Zd)(σ':St):Prop:=∀A s ρ Q E,Pre Z lo A s σ ρ→KFl Z A s σ ρ fl lo' σ' Q→Z.wp A (exec st Z.env) Q E s
def WSs(Z:Zx)(sts:List Stmt)(lo:Zd)(σ:St)(fl:Fl)(lo':Zd)(σ':St):Prop:=∀A s ρ Q E,Pre Z lo A s σ ρ→KFl Z A s σ ρ fl lo' σ' Q→Z.wp A (execs sts Z.env) Q E s
def SSt(Z:Zx)(k:Ye)(st:Stmt):Prop:=∀lo σ fl lo' σ',k lo σ=some (fl,lo',σ')→WS Z st lo σ fl lo' σ'
def SSs(Z:Zx)(k:Ye)(sts:List Stmt):Prop:=∀lo σ fl lo' σ',k lo σ=some (fl,lo',σ')→WSs Z sts lo σ fl lo' σ'
section
variable{Z:Zx}{A:Around}{s:Shared}{σ:St}{ρ:Rho}{lo lo1:Zd}
theorem KFl.after{fl:Fl}{lo':Zd}{σ1 σ':St}{ρ1:Rho}{s1:Shared}{Q:Flow→Shared→Prop}(q:KFl Z A s σ ρ fl lo' σ' Q)(k:ExtL Z.C Z.env.locals σ ρ s σ1 ρ1 s1):KFl Z A s1 σ1 ρ1 fl lo' σ' Q:=fun ρ' s' f P k' h=>q ρ' s' f P (k.trans k') h
theorem KFl.nx{lo':Zd}{σ':St}{ρ':Rho}{Q:Flow→Shared→Prop}(q:KFl Z A s σ ρ .next lo' σ' Q){s':Shared}(P:Pre Z lo' A s' σ' ρ')(k:ExtL Z.C Z.env.locals σ ρ s σ' ρ' s'):Q .next s':=q ρ' s' _ P k rfl
theorem FrS.ns{C:Cx}{t:Tn}{env:Env}{h:Heap}(F:FrS C σ ρ h env t lo):∃m,h.Ns env.locals m:=F.at_.elim fun m e=>⟨m,e.1⟩
theorem Zt2{C:Cx}{h:Heap}{j i:Nat}{v u:V}(hb:Yv j v lo=some lo1)(e:lo1[i]? =some (some u)):(i=j∧u=v)∨(i≠j∧lo[i]? =some (some u)):=Zl hb fun _ hb=>by
 rw[← sj hb,Th] at e;by_cases z:i=j
 ·rw[if_pos z] at e;exact .inl ⟨z,Mo e fun _ _ e=>(sj e).symm⟩
 ·rw[if_neg z] at e;exact .inr ⟨z,e⟩
theorem V5{C:Cx}{t:Tn}{env:Env}(N:Yd C t env){h h':Heap}{v:V}{x:Value}{j:Nat}{n:Str}{m:Str→Option Value}(hj:t.ns[j]? =some (n,.local))(r:R C σ ρ h)(F:FrS C σ ρ h env t lo)
 (hm:h.Ns env.locals m) (hv:∀(j:Nat) (v:V),lo[j]? =some (some v)→∃n k x,t.ns[j]? =some (n,k)∧m n=some x∧VR C σ ρ h v x)
 (vx:VR C σ ρ h v x) (hb:Yv j v lo=some lo1) (hn:h'.Ns env.locals (fun y=>if y=n then some x else m y)) (k:∀b o,b≠env.locals→h.get? b=some o→h'.get? b=some o):
 R C σ ρ h'∧FrS C σ ρ h' env t lo1∧∀{s s':Shared},s.heap=h→s'.heap=h'→Yn s'=Yn s→ExtL C env.locals σ ρ s σ ρ s':=by
 have ns:=Ns.noSeq hm;have st:Z4 h (Own C σ ρ) h' (Own C σ ρ):=⟨fun b o vs n _ g e=>k b o (Y4 ns g e) g,fun _ _ _ _ n _ _=>n⟩;have up:∀{u y},VR C σ ρ h u y→VR C σ ρ h' u y:=fun e=>e.staysQ st (fun _ d=>d) (fun _ _=>rfl);refine⟨r.loc F.liv F.far ns k,⟨⟨_,hn,fun i u e=> ?_⟩,F.own,F.liv,F.far,F.old⟩,fun e1 e2 e3=>⟨fun b o hb _ g=>e2 ▸ k b o hb (e1 ▸ g),fun _ _ _ n _=>n,fun _ d=>d,fun _ _=>rfl,rfl,e3⟩⟩;rcases Zt2 (C:=C) (h:=h) hb e with⟨rfl,rfl⟩ |⟨z,e⟩
 ·exact⟨n,_,x,hj,if_pos rfl,up vx⟩
 ·exact(hv i u e).elim fun n' e=>e.elim fun k' e=>e.elim fun x' e=>⟨n',k',x',e.1,(if_neg fun q=>z (N.nd _ _ _ _ _ e.1 (q ▸ hj))).trans e.2.1,up e.2.2⟩
theorem S9{C:Cx}{t:Tn}{env:Env}(N:Yd C t env):(env.scope.kind == .class || (env.scope.kind == .module&&env.locals != env.globals))=false:=by rw[N.kind];rfl
theorem Xm(H:ZOk Z){v:V}{x:Value}{j:Nat}{n:Str}(hj:okN Z.t .local j n=true)(P:Pre Z lo A s σ ρ)(vx:VR Z.C σ ρ s.heap v x)(hb:Yv j v lo=some lo1)(Q:Unit→Shared→Prop)(E:Value→Shared→Prop)
 (q:∀s',Pre Z lo1 A s' σ ρ→ExtL Z.C Z.env.locals σ ρ s σ ρ s'→Q () s'):Z.wp A (storeName Z.env n x) Q E s:=P.F.at_.elim fun m e=>by
 have o:=Ym H.N hj;refine wpAny_storeName_local o.2.1 e.1 (fun h' hn hs=> ?_) (S9 H.N);have z:=V5 H.N o.1 P.r P.F e.1 e.2 vx hb hn (fun b o hb g=>(hs.2 b hb).trans g);exact q {s with heap:=h',toks:=s.toks + 1} ⟨P.rm,z.1,z.2.1⟩ (z.2.2 rfl rfl rfl)
theorem Ud{j:Nat}{e:Expr}(h:X5 Z.t j e=true){M:Expr→Prop}(k:∀x p,okN Z.t .local j x=true→M (.Name x p)):M e:=Y2 h k
theorem nb{b:Bool}(h:(!b)=true):b=false:=(Bool.not_eq_true' b).mp h
theorem V3{env:Env}{v:Expr}(p:Z1 v=true)(h:(!Zq v)=true)(tg:Option Expr)(n:Nat):swapsWith v tg n env=pure false:=U5 (M:=fun v=>(!Zq v)=true→swapsWith v tg n env=pure false) p (fun _ _ _ _ _=>rfl) (fun _ _ _ _ _ _=>rfl) (fun _ _ _ _ _=>rfl) (fun _ _ _ _ _ _=>rfl) (fun _ _ _ _ _=>rfl) (fun _ _ _ _ _ h=>nf h) (fun _ _ _ _ _ _=>rfl) (fun _ _ _ _ _ _=>rfl) (fun _ _ _ _ _=>rfl) (fun _ _ _ _ _=>rfl) (fun _ _ _ _ _=>rfl) (fun _ _ _ _=>rfl) (fun _ _ _ _=>rfl) (fun _ _ _ _ _=>rfl) (fun _ _ _ _ h=>nf h) h
theorem Np{h h':Heap}{L:Addr}{o:Obj}(ho:h.get? L=some o)(hf:o.isFreed=false)(hl:∃o',h'.get? L=some o'):(h'.update L (fun _=>o)).get? L=some o∧∀b x,b≠L→h'.get? b=some x→(h'.update L (fun _=>o)).get? b=some x:=
 hl.elim fun o' hl=>⟨Heap.get?_update_self (fun _=>o) hl hf,fun b x hb g=>by rw[Heap.get?_update_other _ _ (Ne.symm hb)];exact g⟩
theorem R0{o:Obj}{es ep}(h:o.data= .dict es ep):o.isFreed=false:=by
 obtain⟨cl,dd,dt,sl⟩:=o;cases h;rfl
def Zdf(Z:Zx)(k:Clo)(e:Expr):Prop:=∀j n np p,okN Z.t .local j n=true→Tf (.Name n np) e=true→∀lo σ v σ' lo1,k lo σ=some (v,σ')→Yv j v lo=some lo1→WS Z (.Assign [.Name n np] e p) lo σ .next lo1 σ'
theorem Og(H:ZOk Z){md j:Nat}{ce:CE}{n x:Str}{elt iter:Expr}{sc:Scope}{p pp np yp:Pos}{ds ds':List D}{σ1 σ':St}{v:V}(hj:okN Z.t .local j n=true)(o3:Tf (.Name n np) (.ListComp elt [⟨.Name x yp,iter,[],0⟩] sc pp)=true)
 (hi:Iv Z iter lo σ ds σ1) (pl:Z1 iter=true) (o1:Nj ce x elt=true) (o2:Yc sc x=true) (hc:ceL ce ds=some ds') (hz:ds.length≤100000) (hm:Ta md ds' σ1=(v,σ')) (hb:Yv j v lo=some lo1):WS Z (.Assign [.Name n np] (.ListComp elt [⟨.Name x yp,iter,[],0⟩] sc pp) p) lo σ .next lo1 σ':=fun A s ρ Q E P q=>by
 have S:=Wq o2;have o:=Ym H.N hj;have o3:((np.line == (Expr.ListComp elt [⟨.Name x yp,iter,[],0⟩] sc pp).pos.line)&& !(sc.names.any fun(m,k)=>m == n&&(k == .local || k == .cell)))=true:=o3;have hsw:swapsWith (.ListComp elt [⟨.Name x yp,iter,[],0⟩] sc pp) (some (.Name n np)) p.line Z.env=pure true:=by
  show(pure (Z.env.blockKind == .function&&Z.env.kindOf n == some .local&&np.line == (Expr.ListComp elt [⟨.Name x yp,iter,[],0⟩] sc pp).pos.line
   && !(sc.names.any fun(m,k)=>m == n&&(k == .local || k == .cell))):Sem Bool)=pure true
  rw[show Z.env.blockKind= .function by unfold Env.blockKind;rw[H.N.kind];rfl,o.2.1,(a2 o3).1,(a2 o3).2];rfl
 refine Assign_ListComp_rowsP hsw (S.all nofun nofun) (S.all nofun nofun) S.kind (S.all (p:=fun y=>y.2= .local→sc.names.lookup y.1=some .local) (fun _=>by rw[S.names];rfl) fun _=>S.look) S.look o.2.1 (S9 H.N) (hi A s ρ _ _ P fun ρ1 s1 G I h fp P' St P1 k1 T=> ?_) (Yz pl);obtain⟨m,a,b⟩:=P1.F.at_;obtain⟨oL,es,ep,hoL,hdL,hrest⟩:=id a;have hIL:Z.env.locals≠I:=fun e=>by have:=T.new;rw[← e,hoL] at this;exact nn this.symm
 have hLh:=T.keep _ _ hoL;refine⟨fun _=>true,Ru ce,I,fp,[I],ds.length,P',St,m,rfl,T.walks,by rw[sizeLine_eq];exact Nat.le_trans hz (by decide),T.st,T.lt,fun hm=>hIL (List.mem_singleton.mp hm),⟨oL,es,ep,hLh,hdL,hrest⟩,Rc S o1,fun D h' tk ys vs hD hl hp hlen hP hF hn' hk=> ?_⟩;have hDL:D≠Z.env.locals:=fun e=>by rw[e,hLh] at hD;exact nn hD.symm
 have bk:=Np hoL (h':=h') (R0 hdL) (hn'.elim fun o' z=>z.elim fun _ z=>z.elim fun _ z=>⟨o',z.1⟩);have keepO:∀b o,s1.heap.get? b=some o→(h'.update Z.env.locals (fun _=>oL)).get? b=some o:=fun b o g=>by
  by_cases z:b=Z.env.locals
  ·rw[z] at g ⊢;exact g ▸ hoL ▸ bk.1
  ·exact bk.2 b o z (hk b o z (fun hm=>by rw[List.mem_singleton.mp hm,T.new] at g;exact nn g) (T.keep b o g))
 refine(Os (tk:=tk) H.X P1.r T o1 hc hm hD (hp.elim fun nn hp=>⟨nn,bk.2 D _ hDL hp⟩) hlen hP hF keepO).elim fun ρ2 z=> ?_;have zz:=V5 H.N o.1 z.1 (P1.F.ext z.2.1) ⟨oL,es,ep,bk.1,hdL,hrest⟩ (fun j v e=>(b j v e).elim fun n e=>e.elim fun k e=>e.elim fun x e=>⟨n,k,x,e.1,e.2.1,e.2.2.ext z.2.1⟩) z.2.2 hb hn' fun b o z g=>by rw[Heap.get?_update_other _ _ (Ne.symm z)] at g;exact g
 exact q ρ2 {s1 with heap:=h',toks:=tk} _ ⟨P.rm,zz.1,zz.2.1⟩ ((k1.l.trans z.2.1.l).trans (zz.2.2 rfl rfl rfl)) rfl
end
section
variable{Z:Zx}
structure S3(Z:Zx)(k:KE)(e:Expr):Prop where
 s:S2 Z k.1 e
 r:∀a,k.2=some a→RgE Z a e
 c:Zq e=true→Zdf Z k.1 e
theorem S2.up{k:Clo}{e:Expr}(h:S2 Z k e)(hc:Zq e=false:=by rfl):S3 Z (k,none) e:=⟨h,fun a e=>nn e,fun z=>nf (hc.symm.trans z)⟩
theorem S3.use{k:KE}{e:Expr}(h:S3 Z k e){M:KE→Prop}(f:∀c,S2 Z c e→M (c,none))(g:∀c a,S2 Z c e→RgE Z a e→M (c,some a)):M k:=by
 obtain⟨c,o⟩:=k;cases o with
 |none=>exact f c h.s
 |some a=>exact g c a h.s (h.r a rfl)
theorem Zyv(H:ZOk Z){md:Nat}{ce:CE}{x:Str}{c:Clo}{elt iter:Expr}{sc:Scope}{p yp:Pos}(h:S2 Z c iter)(o1:Nj ce x elt=true)(o2:Yc sc x=true):G9 Z (Zq9 md ce c) (.ListComp elt [⟨.Name x yp,iter,[],0⟩] sc p):=fun lo σ v σ' ev=>Yk ev fun u σ1 h1 ev=>Za ev fun xs h2 ev=>Zl ev fun h3 ev=>Za ev fun ds h4 ev=>Rw H (Kn h.s h1 h2) h.p o1 o2 h4 (Nat.le_of_ble_eq_true h3) (sj ev)
theorem Zz1(H:ZOk Z){md:Nat}{ce:CE}{x:Str}{c:Clo}{elt iter:Expr}{sc:Scope}{p yp:Pos}(h:RgE Z c iter)(pl:Z1 iter=true)(o1:Nj ce x elt=true)(o2:Yc sc x=true):G9 Z (Zs8 md ce c) (.ListComp elt [⟨.Name x yp,iter,[],0⟩] sc p):=fun lo σ v σ' ev=>Fa ev fun n σ1 h1 ev=>Zl ev fun h2 ev=>Za ev fun ds h4 ev=>Rw H (S1 H h h1 h2) pl o1 o2 h4 (by rw[Yw];exact Int.toNat_le.mpr (Ww h2).2) (sj ev)
theorem Zon(H:ZOk Z){md:Nat}{ce:CE}{x:Str}{it:KE}{elt iter:Expr}{sc:Scope}{p yp:Pos}(hi:S3 Z it iter)(o1:Nj ce x elt=true)(o2:Yc sc x=true):S2 Z (Mg md ce it) (.ListComp elt [⟨.Name x yp,iter,[],0⟩] sc p):=
 have pl:=hi.s.p
 hi.use (M:=fun it=>S2 Z (Mg md ce it) (.ListComp elt [⟨.Name x yp,iter,[],0⟩] sc p)) (fun c h=> .of (Zyv (md:=md) H h o1 o2) rfl) fun c a h hr=> .of (Zz1 (md:=md) H hr pl o1 o2) rfl
theorem Zrl(H:ZOk Z){md:Nat}{ce:CE}{x:Str}{c:Clo}{elt iter:Expr}{sc:Scope}{p yp:Pos}(h:S2 Z c iter)(o1:Nj ce x elt=true)(o2:Yc sc x=true):Zdf Z (Zq9 md ce c) (.ListComp elt [⟨.Name x yp,iter,[],0⟩] sc p):=fun j n np p hj hs lo σ v σ' lo1 ev hb=>Yk ev fun u σ1 h1 ev=>Za ev fun xs h2 ev=>Zl ev fun h3 ev=>Za ev fun ds h4 ev=>Og H hj hs (Kn h.s h1 h2) h.p o1 o2 h4 (Nat.le_of_ble_eq_true h3) (sj ev) hb
theorem Zrm(H:ZOk Z){md:Nat}{ce:CE}{x:Str}{c:Clo}{elt iter:Expr}{sc:Scope}{p yp:Pos}(h:RgE Z c iter)(pl:Z1 iter=true)(o1:Nj ce x elt=true)(o2:Yc sc x=true):Zdf Z (Zs8 md ce c) (.ListComp elt [⟨.Name x yp,iter,[],0⟩] sc p):=fun j n np p hj hs lo σ v σ' lo1 ev hb=>Fa ev fun n' σ1 h1 ev=>Zl ev fun h2 ev=>Za ev fun ds h4 ev=>Og H hj hs (S1 H h h1 h2) pl o1 o2 h4 (by rw[Yw];exact Int.toNat_le.mpr (Ww h2).2) (sj ev) hb
theorem Aq(H:ZOk Z){md:Nat}{ce:CE}{x:Str}{it:KE}{elt iter:Expr}{sc:Scope}{p yp:Pos}(hi:S3 Z it iter)(o1:Nj ce x elt=true)(o2:Yc sc x=true):S3 Z (Mg md ce it,none) (.ListComp elt [⟨.Name x yp,iter,[],0⟩] sc p):=
 have pl:=hi.s.p
 ⟨Zon H hi o1 o2,nofun,fun _=>hi.use (M:=fun it=>Zdf Z (Mg md ce it) (.ListComp elt [⟨.Name x yp,iter,[],0⟩] sc p)) (fun c h=>Zrl H h o1 o2) fun c a h hr=>Zrm H hr pl o1 o2⟩
def OB(Z:Zx)(op:BoolOp)(o:Option Clo)(xs:List Expr):Prop:=Option.rec (xs=[]) (fun k=>SB Z op k xs∧∃a r,xs=a::r) o
theorem B7{op:BoolOp}{e:Clo}{o:Option Clo}{x:Expr}{xs:List Expr}(he:S2 Z e x)(h:OB Z op o xs):OB Z op (some (Option.rec e (fun k=>Zep op e k) o)) (x::xs):=by
 refine⟨?_,x,xs,rfl⟩;cases o with
 |none=>rw[show xs=[] from h];exact Zor he
 |some k=>
  refine h.2.elim fun a z=>z.elim fun r z=> ?_;have h1:=h.1;rw[z] at h1 ⊢;exact Ay he h1
theorem Zol{op:BoolOp}{o:Option Clo}{xs:List Expr}{p:Pos}(h:OB Z op o xs):S2 Z (eB o) (.BoolOp op xs p):=by
 cases o with
 |none=>exact⟨fun _ _ _ _ ev=>nn ev,fun _ _ _ _ ev=>nn ev,rfl⟩
 |some k=>exact Zyr h.1
def SP(Z:Zx)(ks:List KE):List Expr→Prop:=List.rec (fun xs=>xs=[]) (fun k _ ih xs=>∃x r,xs=x::r∧S2 Z k.1 x∧ih r) ks
structure SLs(Z:Zx)(ks:List KE)(xs:List Expr):Prop where
 sp:SP Z ks xs
 l:SL Z (eEs ks) xs
 b:∀op,OB Z op (eBs op ks) xs
 z:xs=[]→∀lo σ,eEs ks lo σ=some ([],σ)
theorem Nz{e:KE}{ks:List KE}{x:Expr}{xs:List Expr}(he:S2 Z e.1 x)(hl:SLs Z ks xs):SLs Z (e::ks) (x::xs):=⟨⟨x,xs,rfl,he,hl.sp⟩,A2 he hl.l,fun op=>B7 he (hl.b op),nofun⟩
variable(H:ZOk Z)
theorem B8{j:Nat}{s:Str}{e:Expr}(h:okG Z.t j s e=true){M:Expr→Prop}(f:∀n p,okN Z.t .globalImplicit j n=true→Zs s n=true→M (.Name n p)):M e:=Y2 h fun n p h=>Yp h (f n p)
theorem Jr{j:Nat}{s:Str}{e:Expr}{k:List Expr→Bool}(h:Ga Z.t j s e k=true){M:Expr→Prop}(f:∀n np as p,okN Z.t .globalImplicit j n=true→Zs s n=true→k as=true→M (.Call (.Name n np) as [] p)):M e:=
 U1 h fun c as kw p h=>Zt (M:=fun kw=>M (.Call c as kw p)) h fun h=>Yp h fun h1 h2=>B8 (M:=fun c=>M (.Call c as [] p)) h1 fun n np hj hn=>f n np as p hj hn h2
theorem Qg{e:Expr}{k:Expr→Str→List Expr→Bool}(h:Nk e k=true){M:Expr→Prop}(f:∀o n ap as p,Y5 o=true→(ap.endLine == p.line)=true→k o n as=true→M (.Call (.Attribute o n ap) as [] p)):M e:=
 U1 h fun c as kw p h=>Zt (M:=fun kw=>M (.Call c as kw p)) h fun h=>Ko (M:=fun c=>M (.Call c as [] p)) h fun o n ap h=>Xy h (f o n ap as p)
theorem Jt{e:Expr}{k:Expr→Str→Expr→Bool}(h:Zmz e k=true){M:Expr→Prop}(f:∀elt y yp iter sc p,Yc sc y=true→k elt y iter=true→M (.ListComp elt [⟨.Name y yp,iter,[],0⟩] sc p)):M e:=
 Zgh h fun elt gs sc p h=>Zw (M:=fun gs=>M (.ListComp elt gs sc p)) h fun g h=>by
  obtain⟨tg,it,ifs,a⟩:=g;refine Xy h fun h1 h2 h=> ?_;rw[show a=0 from of_decide_eq_true h1,show ifs=[] from List.isEmpty_iff.mp h2];exact Y2 (M:=fun tg=>M (.ListComp elt [⟨tg,it,[],0⟩] sc p)) h fun y yp h=>Yp h (f elt y yp it sc p)
variable{cf:Nat→List V→St→Res}(hcf:SoundCF Z.C Z.d cf)
include H hcf
theorem Mz(md:Nat)(ie:IE):∀x,okE Z.t ie x=true→S3 Z (kE Z.C.T cf md ie) x:=by
 refine IE.rec (motive_1:=fun ie=>∀x,okE Z.t ie x=true→S3 Z (kE Z.C.T cf md ie) x) (motive_2:=fun l=>∀xs,Mq Z.t l xs=true→SLs Z (kEs Z.C.T cf md l) xs)
  ?_ ?_ ?_ ?_ ?_ ?_ ?_ ?_ ?_ ?_ ?_ ?_ ?_ ?_ ?_ ?_ ?_ ?_ ?_ ?_ ?_ ?_ ?_ ?_ ?_ ?_ ?_ ie
 ·exact fun d x (h:(R9 x fun c _ _=>okC d c)=true)=>Xh (M:=S3 Z _) h fun c j p h=>(s_c H h).up
 ·exact fun j x (h:(kNm x fun n _=>okN Z.t .local j n)=true)=>Y2 (M:=S3 Z _) h fun n p h=>(Zyy H h).up
 ·exact fun j g x (h:(okG Z.t j (Z.t.gn g) x)=true)=>B8 (M:=S3 Z _) h fun n p h1 h2=>(Ygv H h1 h2).up
 ·exact fun l ih x (h:(Mk x fun es _ _=>Mq Z.t l es)=true)=>Kt (M:=S3 Z _) h fun es k p h=>(Zz3 (ih es h).l).up
 ·exact fun l ih x (h:(Zgi x fun es _=>Mq Z.t l es)=true)=>F1 (M:=S3 Z _) h fun es p h=>(Zyw (ih es h).l).up
 ·exact fun x (h:(S4 x fun ks vs _=>X4 ks (X4 vs true))=true)=>S5 (M:=S3 Z _) h fun ks vs p h=>Zt (M:=fun ks=>S3 Z _ (.Dict ks vs p)) h fun h=>Zt (M:=fun vs=>S3 Z _ (.Dict [] vs p)) h fun _=>s_dct0.up
 ·exact fun op a b iha ihb x (h:(Pj x fun l o r _=>decide (op=o)&&(okE Z.t a l&&okE Z.t b r))=true)=>Wv (M:=S3 Z _) h fun l o r p h=>Xy h fun h1 h2 h3=>of_decide_eq_true h1 ▸ (Zyq (Zdu H op) (iha l h2).s (ihb r h3).s).up
 ·exact fun a ih x (h:(kUn x fun o y _=>decide (o= .Not)&&okE Z.t a y)=true)=>Zgk (M:=S3 Z _) h fun o y p h=>Yp h fun h1 h2=>(of_decide_eq_true h1).symm ▸ (Zyz (ih y h2).s).up
 ·exact fun a ih x (h:(kUn x fun o y _=>decide (o= .USub)&&okE Z.t a y)=true)=>Zgk (M:=S3 Z _) h fun o y p h=>Yp h fun h1 h2=>(of_decide_eq_true h1).symm ▸ (Zyx H (ih y h2).s).up
 ·exact fun op a b iha ihb x (h:(Zga x fun l os rs _=>Yt os fun o=>Yt rs fun r=>decide (op=o)&&(okE Z.t a l&&okE Z.t b r))=true)=>Fy (M:=S3 Z _) h fun l os rs p h=>Zw (M:=fun os=>S3 Z _ (.Compare l os rs p)) h fun o h=>Zw (M:=fun rs=>S3 Z _ (.Compare l [o] rs p)) h fun r h=>Xy h fun h1 h2 h3=>of_decide_eq_true h1 ▸ (Zys (Zee H op) (iha l h2).s (ihb r h3).s).up
 ·exact fun op l ih x (h:(Zqi x fun o es _=>decide (op=o)&&Mq Z.t l es)=true)=>Zg8 (M:=S3 Z _) h fun o es p h=>Yp h fun h1 h2=>of_decide_eq_true h1 ▸ (Zol ((ih es h2).b op)).up
 ·exact fun c a b ihc iha ihb x (h:(Zqj x fun u v w _=>okE Z.t c u&&(okE Z.t a v&&okE Z.t b w))=true)=>Zgg (M:=S3 Z _) h fun u v w p h=>Xy h fun h1 h2 h3=>(Zyu (ihc u h1).s (iha v h2).s (ihb w h3).s).up
 ·exact fun e a ih x (h:(Fw x fun v n _=>okE Z.t e v&&(Zs (Z.t.an a) n&&Y5 v))=true)=>Ko (M:=S3 Z _) h fun v n p h=>Xy h fun h1 h2 h3=>(Zok H (ih v h1).s h2 h3).up
 ·exact fun a b iha ihb x (h:(Uk x fun v sl _=>okE Z.t a v&&okE Z.t b sl)=true)=>We (M:=S3 Z _) h fun v sl p h=>Yp h fun h1 h2=>(Zz2 H (iha v h1).s (ihb sl h2).s).up
 ·exact fun e k ih x (h:(Uk x fun v sl _=>R9 sl fun c _ _=>kCs c fun y=>Zs y (Wy k)&&okE Z.t e v)=true)=>We (M:=S3 Z _) h fun v sl p h=>Xh (M:=fun sl=>S3 Z _ (.Subscript v sl p)) h fun c j p1 h=>Kp (M:=fun c=>S3 Z _ (.Subscript v (.Constant c j p1) p)) h fun y h=>Yp h fun h1 h2=>(Ygw (ih v h2).s h1).up
 ·exact fun a b iha ihb x (h:(Uk x fun v sl _=>F3 sl fun l u s _=>kNo s (kNo u (kSo l fun l=>okE Z.t a v&&okE Z.t b l)))=true)=>We (M:=S3 Z _) h fun v sl p h=>Ks (M:=fun sl=>S3 Z _ (.Subscript v sl p)) h fun l u s sp h=>Pn (M':=fun s=>S3 Z _ (.Subscript v (.Slice l u s sp) p)) h fun h=>Pn (M':=fun u=>S3 Z _ (.Subscript v (.Slice l u none sp) p)) h fun h=>S6 (M':=fun l=>S3 Z _ (.Subscript v (.Slice l none none sp) p)) h fun l h=>Yp h fun h1 h2=>(Zop H (iha v h1).s (ihb l h2).s).up
 ·exact fun a b iha ihb x (h:(Uk x fun v sl _=>F3 sl fun l u s _=>kNo s (kNo l (kSo u fun l=>okE Z.t a v&&okE Z.t b l)))=true)=>We (M:=S3 Z _) h fun v sl p h=>Ks (M:=fun sl=>S3 Z _ (.Subscript v sl p)) h fun l u s sp h=>Pn (M':=fun s=>S3 Z _ (.Subscript v (.Slice l u s sp) p)) h fun h=>Pn (M':=fun l=>S3 Z _ (.Subscript v (.Slice l u none sp) p)) h fun h=>S6 (M':=fun u=>S3 Z _ (.Subscript v (.Slice none u none sp) p)) h fun l h=>Yp h fun h1 h2=>(Zoq H (iha v h1).s (ihb l h2).s).up
 ·exact fun j f l ih x (h:(Ga Z.t j (Z.t.fn f) x fun as=>Wc as fun e r=>Z.t.isG f&&Mq Z.t l (e::r))=true)=>Jr (M:=S3 Z _) h fun n np as p hj hn h=>Z6 (M:=fun as=>S3 Z _ (.Call (.Name n np) as [] p)) h fun e r h=>Yp h fun h1 h2=>(Zom H hcf (ih (e::r) h2).l hj hn h1).up
 ·exact fun j c l ih x (h:(Ga Z.t j (Z.t.cn c) x fun as=>Nat.blt c 6&&Mq Z.t l as)=true)=>Jr (M:=S3 Z _) h fun n np as p hj hn h=>Yp h fun h1 h2=>(Yj3 H hcf (ih as h2).l hj hn h1 (ih as h2).z).up
 ·refine fun j b a ih x h=>Jr (k:=fun as=>Wc as fun e r=>okE Z.t a e&&Zxz Z.t b r) (M:=S3 Z _) h fun n np as p hj hn h=>Z6 (M:=fun as=>S3 Z _ (.Call (.Name n np) as [] p)) h fun e r h=>Yp h fun h1 h2=> ?_
  cases b with
  |isTup=>exact Zw (M:=fun r=>S3 Z _ (.Call (.Name n np) (e::r) [] p)) h2 fun y hy=>(Ax H (ih e h1).s hj hn hy).up
  |range=>exact Zt (M:=fun r=>S3 Z _ (.Call (.Name n np) (e::r) [] p)) h2 fun _=>⟨Zr5 H (ih e h1).s hj hn nofun,fun a ea=>sj ea ▸ have o:=Ym H.N hj;T7 H (ih e h1).s hn o.2.1 o.2.2,fun z=>nf z⟩
  |len=>exact Zt (M:=fun r=>S3 Z _ (.Call (.Name n np) (e::r) [] p)) h2 fun _=>(Zr5 H (ih e h1).s hj hn nofun).up
  |tuple=>exact Zt (M:=fun r=>S3 Z _ (.Call (.Name n np) (e::r) [] p)) h2 fun _=>(Zr5 H (ih e h1).s hj hn nofun).up
  |str=>exact Zt (M:=fun r=>S3 Z _ (.Call (.Name n np) (e::r) [] p)) h2 fun _=>(Zr5 H (ih e h1).s hj hn nofun).up
 ·exact fun a b iha ihb x (h:(Nk x fun o n as=>Zs n "append"&&Yt as fun y=>okE Z.t a o&&okE Z.t b y)=true)=>Qg (M:=S3 Z _) h fun o n ap as p hb hl h=>Yp h fun hn h=>Zw (M:=fun as=>S3 Z _ (.Call (.Attribute o n ap) as [] p)) h fun y h=>Yp h fun h1 h2=>(Zyp (iha o h1).s (ihb y h2).s hb hl hn).up
 ·exact fun a ih x (h:(Nk x fun o n as=>Zs n "pop"&&X4 as (okE Z.t a o))=true)=>Qg (M:=S3 Z _) h fun o n ap as p hb hl h=>Yp h fun hn h=>Zt (M:=fun as=>S3 Z _ (.Call (.Attribute o n ap) as [] p)) h fun h=>(Zz0 (ih o h).s hb hl hn).up
 ·exact fun a b c iha ihb ihc x (h:(Nk x fun o n as=>Zs n "get"&&Wc as fun y r=>Yt r fun z=>okE Z.t a o&&(okE Z.t b y&&okE Z.t c z))=true)=>Qg (M:=S3 Z _) h fun o n ap as p hb hl h=>Yp h fun hn h=>Z6 (M:=fun as=>S3 Z _ (.Call (.Attribute o n ap) as [] p)) h fun y r h=>Zw (M:=fun r=>S3 Z _ (.Call (.Attribute o n ap) (y::r) [] p)) h fun z h=>Xy h fun h1 h2 h3=>(Zyt H (iha o h1).s (ihb y h2).s (ihc z h3).s hb hl hn).up
 ·exact fun e a f l ih ihl x (h:(Nk x fun o n as=>Wc as fun y r=>Zs (Z.t.an a) n&&(Nat.blt (y::r).length 20&&(okE Z.t e o&&Mq Z.t l (y::r))))=true)=>Qg (M:=S3 Z _) h fun o n ap as p hb hl h=>Z6 (M:=fun as=>S3 Z _ (.Call (.Attribute o n ap) as [] p)) h fun y r h=>T1 h fun hn h1 h2 h3=>(Zoo H hcf (ih o h2).s (ihl (y::r) h3).l hb hl hn h1).up
 ·exact fun ce x it ih e h=>Jt (k:=fun elt y iter=>Nj ce x elt&&(Zs x y&&okE Z.t it iter)) (M:=S3 Z _) h fun elt y yp iter sc p o2 h=>Xy h fun h1 h2 h3=>Aq H (ih iter h3) (strB_iff.mp h2 ▸ h1) o2
 ·exact fun xs (h:(X4 xs true)=true)=>Zt (M:=SLs Z _) h fun _=>⟨rfl,Ep,fun op=>rfl,fun _ _ _=>rfl⟩
 ·exact fun e l ihe ihl xs (h:(Wc xs fun x xs=>okE Z.t e x&&Mq Z.t l xs)=true)=>Z6 (M:=SLs Z _) h fun x xs h=>Yp h fun h1 h2=>Nz (ihe x h1).s (ihl xs h2)
end
set_option genInjectivity true
theorem Ti{prog:Program}{w:World}{A:Around}{E:Value→Shared→Prop}{s:Shared}{l:Addr}{items:Array Value}{k:Int}{t:Tok}{v:Value}{Q:Unit→Shared→Prop}(hl:s.heap.IsList l items)
 (h0:0≤k) (hfit:k < 2 ^ 63) (hn:k < items.size) (hQ:Q () {s with heap:=s.heap.update l (Obj.mapSeq (·.setIfInBounds k.toNat v))}):
 wpAny (model prog w) A (setItem (.ref l) (.int k t) v) Q E s:=by
 have ty:=hl.typeIs;obtain⟨o,ho,hc,ne,hd⟩:=hl;unfold setItem;refine wpAny_holding (wpAny_bind (wpAny_sequenceKey ty (by decide) ?_));refine wpAny_bind (wpAny_callSpecial?_slot (name:=Str.ofString "__setitem__") ty slot_list_setitem (wpAny_call_entry slot_list_setitem ty entry_list_setitem ?_ (args_list_setitem _ _ _)));show wpAny _ _ (Builtin.List.listSubscript? (.int k t) >>= _) _ _ s;refine wpAny_bind (wpAny_listSubscript_int (fitsIndex_of h0 hfit) ?_);clear hfit;obtain⟨j,rfl⟩:=Int.eq_ofNat_of_zero_le h0;have hj:j < items.size:=by omega
 show wpAny _ _ ((seqItemAt l j >>= fun r=>pure (r.map (j, ·))) >>= _) _ _ s;refine wpAny_bind (wpAny_bind (wpAny_seqItemAt ho hd (wpAny_pure ?_)));rw[Array.getElem?_eq_getElem hj];show wpAny _ _ (setSeqItemAt l j v >>= _) _ _ s;refine wpAny_bind (wpAny_setSeqItemAt ho hd ?_);first
  |exact wpAny_bind (wpAny_pure (wpAny_pure ⟨.none,rfl,wpAny_pure hQ⟩))
  |exact wpAny_pure ⟨.none,rfl,wpAny_pure hQ⟩
section
variable{C:Cx}{σ:St}{ρ:Rho}{h:Heap}
theorem Nw{α:Type}:∀(l:List α) (n:Nat) (x:α),Z7 l n x=l.set n x
 | [],n,x=>rfl
 |a::l,0,x=>rfl
 |a::l,n + 1,x=>congrArg (a:: ·) (Nw l n x)
theorem P6{α:Type}{l l':List α}{k:Int}{x:α}(h:putAt l k x=some l'){P:Prop}(f:0≤k→k.toNat < l.length→l'=l.set k.toNat x→P):P:=by
 cases k with
 |ofNat n=>exact Zl h fun e h=>f (Int.natCast_nonneg n) (Zz e) ((sj h).symm.trans (Nw _ _ _))
 |negSucc n=>exact nn h
theorem RdDs.set{P:Addr→Prop}{d:D}{x:Value}(hx:RdD h P d x):∀{n:Nat} {l:List D} {vs:List Value},RdDs h P l vs→RdDs h P (l.set n d) (vs.set n x)
 |n,[],vs,e=>e.nil_e (M:=fun vs=>RdDs h P [] (vs.set n x)) rfl
 |0,y::l,vs,e=>e.cons_e (M:=fun vs=>RdDs h P (d::l) (vs.set 0 x)) fun v vs' h1 h2=>⟨x,vs',rfl,hx,h2⟩
 |n + 1,y::l,vs,e=>e.cons_e (M:=fun vs=>RdDs h P (y::l.set n d) (vs.set (n + 1) x)) fun v vs' h1 h2=>⟨v,vs'.set n x,rfl,h1,RdDs.set hx h2⟩
theorem VRs.set{v:V}{x:Value}(hx:VR C σ ρ h v x):∀{n:Nat} {l:List V} {vs:List Value},VRs C σ ρ h l vs→VRs C σ ρ h (l.set n v) (vs.set n x)
 |n,[],vs,e=>e.nil_e (M:=fun vs=>VRs C σ ρ h [] (vs.set n x)) rfl
 |0,y::l,vs,e=>e.cons_e (M:=fun vs=>VRs C σ ρ h (v::l) (vs.set 0 x)) fun u vs' h1 h2=>⟨x,vs',rfl,hx,h2⟩
 |n + 1,y::l,vs,e=>e.cons_e (M:=fun vs=>VRs C σ ρ h (y::l.set n v) (vs.set (n + 1) x)) fun u vs' h1 h2=>⟨u,vs'.set n x,rfl,h1,VRs.set hx h2⟩
theorem Nums.set{ν:Int→Int}{i:Int}{tk:Tok}:∀{n:Nat} {l:List Int} {vs:List Value},Nums ν l vs→Nums ν (l.set n i) (vs.set n (.int (ν i) tk))
 |n,[],vs,e=>by rw[show vs=[] from e];rfl
 |0,y::l,vs,e=>Nums.cons_e (M:=fun vs=>Nums ν (i::l) (vs.set 0 _)) e fun t vs' h2=>⟨vs',tk,rfl,h2⟩
 |n + 1,y::l,vs,e=>Nums.cons_e (M:=fun vs=>Nums ν (y::l.set n i) (vs.set (n + 1) _)) e fun t vs' h2=>⟨vs'.set n _,t,rfl,Nums.set (tk:=tk) h2⟩
theorem Bl(ν:Int→Int)(l:List D)(n:Nat)(d:D):mDs ν (l.set n d)=(mDs ν l).set n (mD ν d):=by rw[Xj,Xj,List.map_set]
theorem Qu{K:Type} [DecidableEq K]{k:K}{y x:Value}{es:List (K×Value)}(hn:(((k,y)::es).map (·.1)).Nodup):stored ((k,y)::es) k x=(k,x)::es:=by
 unfold stored;rw[List.any_cons,decide_eq_true rfl,Bool.true_or,if_pos rfl,List.map_cons,if_pos rfl];exact congrArg ((k,x):: ·) (map_eq_self fun kv hkv=>if_neg (fun z=>(List.nodup_cons.mp hn).1 (List.mem_map.mpr ⟨kv,hkv,z⟩)))
theorem Qv{K:Type} [DecidableEq K]{k i:K}{y x:Value}{es:List (K×Value)}(hne:¬k=i):stored ((k,y)::es) i x=(k,y)::stored es i x:=by
 unfold stored;rw[List.any_cons,decide_eq_false hne,Bool.false_or,List.map_cons,if_neg hne];split <;> rfl
theorem M1{k:List NK}{b bb:Addr}{y x:Value}{es:List (List NK×Addr×Value)}(hn:(((k,bb,y)::es).map (·.1)).Nodup):storedH ((k,bb,y)::es) k b x=(k,bb,x)::es:=by
 unfold storedH;rw[Oh];refine(if_pos rfl).trans ?_;rw[List.map_cons,map_putAt_of_not_mem es k x (List.nodup_cons.mp hn).1,show PySem.putAt k x (k,bb,y)=(k,bb,x) from if_pos rfl]
theorem M2{k i:List NK}{b bb:Addr}{y x:Value}{es:List (List NK×Addr×Value)}(hne:¬k=i):storedH ((k,bb,y)::es) i b x=(k,bb,y)::storedH es i b x:=by
 unfold storedH;rw[Oi hne,List.map_cons,show PySem.putAt i x (k,bb,y)=(k,bb,y) from if_neg hne];split <;> rfl
theorem IntEnts.put{i:Int}{v:V}{x:Value}(hi:Yo i=true)(hx:VR C σ ρ h v x):∀{l l':List (D×V)} {kvs:List (Int×Value)},IntEnts C σ ρ h l kvs→(kvs.map (·.1)).Nodup→putD? l (.int i) v=some l'→IntEnts C σ ρ h l' (stored kvs i x)
 | [],l',kvs,e,hn,g=>by
   rw[show kvs=[] from e];exact sj g ▸ ⟨x,[],rfl,hi,hx,rfl⟩
 |(k,u)::r,l',kvs,e,hn,g=>IntEnts.cons_e (M:=fun k kvs=>(kvs.map (·.1)).Nodup→putD? ((k,u)::r) (.int i) v=some l'→IntEnts C σ ρ h l' (stored kvs i x)) e (fun k y es' h1 h2 h3 hn g=>Za (x:=W8 (.int k) (.int i)) g fun b e g=>Vc (x:=some ((PyData.int k,v)::r)) (y:=ob (putD? r (.int i) v) fun l=>some ((.int k,u)::l)) g
    (fun hb g=>by
      rw[← Zu ((sj e).trans hb),Qu hn]
      exact sj g ▸ ⟨x,es',rfl,h1,hx,h3⟩)
    fun hb g=>Za g fun r' g1 g=>by
     rw[Qv (Pf ((sj e).trans hb))]
     exact sj g ▸ ⟨y,_,rfl,h1,h2,IntEnts.put hi hx h3 (List.nodup_cons.mp hn).2 g1⟩) hn g
theorem NkEnts.put{i:List D}{ks:List NK}{b:Addr}{v:V}{x:Value}(e1:Pe i=some ks)(e2:Y8 i=true)(hb:RdD h (Own C σ ρ) (.tuple i) (.ref b))(hx:VR C σ ρ h v x):
 ∀{es l':List (D×V)} {xs:List (List NK×Addr×Value)},NkEnts C σ ρ h es xs→(xs.map (·.1)).Nodup→putD? es (.tuple i) v=some l'→NkEnts C σ ρ h l' (storedH xs ks b x)
 | [],l',xs,e,hn,g=>by
   rw[show xs=[] from e];exact sj g ▸ ⟨i,ks,b,x,[],rfl,rfl,e1,e2,hb,hx,rfl⟩
 |(k,u)::r,l',xs,e,hn,g=>NkEnts.cons_e (M:=fun k xs=>(xs.map (·.1)).Nodup→putD? ((k,u)::r) (.tuple i) v=some l'→NkEnts C σ ρ h l' (storedH xs ks b x)) e (fun ds kk bb y xs' d3 d4 d5 d6 d7 hn g=>Za (x:=W8 (.tuple ds) (.tuple i)) g fun t e g=>by
    have e:eqT ds i=t:=sj e;rw[Fh d3 e1 d4 e2] at e;refine Vc (x:=some ((PyData.tuple ds,v)::r)) (y:=ob (putD? r (.tuple i) v) fun l=>some ((.tuple ds,u)::l)) g (fun ht g=> ?_) fun ht g=>Za g fun r' g1 g=> ?_
    ·rw[ht] at e
     have q:=of_decide_eq_true e;rw[← q,M1 hn];exact sj g ▸ ⟨ds,kk,bb,x,xs',rfl,rfl,d3,d4,d5,hx,d7⟩
    ·rw[ht] at e
     rw[M2 (of_decide_eq_false e)]
     exact sj g ▸ ⟨ds,kk,bb,y,_,rfl,rfl,d3,d4,d5,d6,NkEnts.put e1 e2 hb hx d7 (List.nodup_cons.mp hn).2 g1⟩) hn g
theorem No{key:D}{v:V}:∀{l l':List (D×V)},putD? l key v=some l'→l.length≤l'.length∧∃p r,l'=p::r∧∃b,W8 p.1 key=some b
 | [],l',h=>by
   refine⟨Nat.zero_le _,?_⟩;have h:F8 key v=some l':=h;cases key with
   |int i=>exact sj h ▸ ⟨_,_,rfl,_,rfl⟩
   |tuple i=>exact sj h ▸ ⟨_,_,rfl,_,rfl⟩
   |_=>exact nn h
 |p::r,l',h=>Za (x:=W8 p.1 key) h fun b e h=>Vc (x:=some ((p.1,v)::r)) (y:=ob (putD? r key v) fun l=>some (p::l)) h (fun _ h=>sj h ▸ ⟨Nat.le_refl _,_,_,rfl,b,e⟩) fun _ h=>Za h fun r' g h=>sj h ▸ ⟨Nat.succ_le_succ (No g).1,_,_,rfl,b,e⟩
theorem Ku{k:D}{i:List D}{b:Bool}(h:W8 k (.tuple i)=some b):∀j,k≠ .int j:=fun j z=>by rw[z] at h;exact nn h
theorem IntEnts.len:∀{l:List (D×V)} {kvs:List (Int×Value)},IntEnts C σ ρ h l kvs→kvs.length=l.length
 | [],kvs,e=>by rw[show kvs=[] from e];rfl
 |(k,u)::r,kvs,e=>IntEnts.cons_e (M:=fun _ kvs=>kvs.length=r.length + 1) e fun _ _ _ _ _ h=>congrArg (· + 1) (IntEnts.len h)
theorem NkEnts.len:∀{l:List (D×V)} {xs:List (List NK×Addr×Value)},NkEnts C σ ρ h l xs→xs.length=l.length
 | [],xs,e=>by rw[show xs=[] from e];rfl
 |(k,u)::r,xs,e=>NkEnts.cons_e (M:=fun _ xs=>xs.length=r.length + 1) e fun _ _ _ _ _ _ _ _ _ h=>congrArg (· + 1) (NkEnts.len h)
theorem Ae{es l:List (D×V)}{i:Int}{v:V}(g:putD? es (.int i) v=some l)(p:D×V)(r:List (D×V))(e:es=p::r):∃i,p.1= .int i:=by
 rw[e] at g;exact Za (x:=W8 p.1 (.int i)) g fun b e _=>U3 (M:=fun d=>∃i,d= .int i) e fun k _=>⟨k,rfl⟩
theorem Af{es l:List (D×V)}{i:List D}{v:V}(g:putD? es (.tuple i) v=some l)(p:D×V)(r:List (D×V))(e:es=p::r):∀j,p.1≠ .int j:=by
 rw[e] at g;exact Za (x:=W8 p.1 (.tuple i)) g fun b e _=>Ku e
theorem Yhk{d:D}{A B:Prop}{i:Int}{b:Bool}(h:W8 d (.int i)=some b)(a:A):dk d A B:=U3 (M:=fun d=>dk d A B) h fun k _=>a
theorem Zs3{d:D}{A B:Prop}(h:∀j,d≠ .int j)(b:B):dk d A B:=by
 cases d with
 |int j=>exact(h j rfl).elim
 |_=>exact b
theorem Ua{K:Type} [DecidableEq K]{prog:Program}{w:World}{kd:PySem.KeyKind prog w K}{a:Addr}{kvs:List (K×Value)}(e:h.DictOf kd a kvs):(kvs.map (·.1)).Nodup:=e.elim fun _ e=>e.elim fun _ e=>e.elim fun _ e=>e.2.2.2.2.2
theorem Ss{K:Type} [DecidableEq K]{prog:Program}{w:World}{kd:HeapKind prog w K}{a:Addr}{kvs:List (K×Addr×Value)}(e:h.DictOfH kd a kvs):(kvs.map (·.1)).Nodup:=e.elim fun _ e=>e.elim fun _ e=>e.elim fun _ e=>e.2.2.2.2.2
end
section
variable{Z:Zx}{lo:Zd}{σ σ':St}
def KU(Z:Zx)(lo:Zd)(A:Around)(s:Shared)(σ:St)(ρ:Rho)(σ':St)(Q:Unit→Shared→Prop):Prop:=∀s',Pre Z lo A s' σ' ρ→Ext Z.C σ ρ s σ' ρ s'→Q () s'
def Vd(Z:Zx)(lo:Zd)(x y v:V)(σ σ':St):Prop:=∀A s ρ u w z Q E,Pre Z lo A s σ ρ→VR Z.C σ ρ s.heap x u→VR Z.C σ ρ s.heap y w→VR Z.C σ ρ s.heap v z→KU Z lo A s σ ρ σ' Q→Z.wp A (setItem u w z) Q E s
theorem KU.fin{A:Around}{s s':Shared}{ρ:Rho}{Q:Unit→Shared→Prop}(q:KU Z lo A s σ ρ σ' Q)(P:Pre Z lo A s σ ρ)(a:R Z.C σ' ρ s'.heap∧Stays s.heap (Own Z.C σ ρ) s'.heap (Own Z.C σ' ρ)∧(∀l,Dom σ l→Dom σ' l)∧σ'.base=σ.base)(e:Yn s'=Yn s):Q () s':=
 have k:Ext Z.C σ ρ s σ' ρ s':=⟨a.2.1,a.2.2.1,fun _ _=>rfl,a.2.2.2,e⟩
 q s' (P.to a.1 k) k
theorem KU.ext{A:Around}{s s':Shared}{ρ:Rho}{Q:Unit→Shared→Prop}(q:KU Z lo A s σ ρ σ' Q)(P:Pre Z lo A s σ ρ)(a:R Z.C σ' ρ s'.heap∧Ext Z.C σ ρ s σ' ρ s'):Q () s':=q s' (P.to a.1 a.2) a.2
theorem P8{items:Array Value}{n:Nat}{k:Int}(h0:0≤k)(h:k.toNat < n)(e:items.toList.length=n):k < (items.size:Int):=by rw[← Array.length_toList,e];exact(Int.toNat_lt h0).mp h
theorem Ba{n:Nat}(h:n≤100000):n + 1≤sizeLine:=by rw[sizeLine_eq];exact Nat.le_trans (Nat.succ_le_succ h) (by decide)
theorem Az(H:ZOk Z){n:Nat}{o:O}{dd:D}{v:V}(h0:Z.C.get σ n=some o)(h:Ygx σ n v dd o=some σ'):Vd Z lo (.loc (.id n)) (.dat dd) v σ σ':=fun A s ρ u w z Q E P vx vy vz q=>vx.loc_e fun _=>by
 have rep:=P.r.rep n _ h0;cases o with
 |dl rr=>
  refine Vf (M:=fun dd=>VR Z.C σ ρ s.heap (.dat dd) w→_) h (fun k h vy=>Zl h fun hk h=>Rh (M:=fun v=>VR Z.C σ ρ s.heap v z→_) h (fun x h vz=>Za h fun l hl h=>P6 hl fun p0 p1 p2=>vy.int_e fun tk=>rep.elim fun items la=>la.1.elim fun m la1=> ?_) vz) vy;rw[p2] at h;rw[show Z.C.ν k=k from Rg H.X.v0 hk]
  exact Ti (IsL.isList la1) p0 (A3 hk) (P8 p0 p1 (by rw[la.2.len,Y3])) (q.ext P (Vo (o:= .dl rr) (o':= .dl (rr.reverse.set k.toNat x).reverse) (f:=fun xs=>xs.setIfInBounds k.toNat z) P.r h0 nofun nofun la1 h fun st hd lx=>⟨_,lx,by
   rw[List.reverse_reverse,Bl,Array.toList_setIfInBounds];exact RdDs.set (RdD.stays st vz) (RdDs.stays st la.2)⟩))
 |list xs=>
  refine Vf (M:=fun dd=>VR Z.C σ ρ s.heap (.dat dd) w→_) h (fun k h vy=>Zl h fun hk h=>Za h fun l hl h=>P6 hl fun p0 p1 p2=>vy.int_e fun tk=>rep.elim fun items la=>la.1.elim fun m la1=> ?_) vy;rw[p2] at h;rw[show Z.C.ν k=k from Rg H.X.v0 hk]
  exact Ti (IsL.isList la1) p0 (A3 hk) (P8 p0 p1 la.2.len) (q.ext P (Vo (o:= .list xs) (o':= .list (xs.set k.toNat v)) (f:=fun xs=>xs.setIfInBounds k.toNat z) P.r h0 nofun nofun la1 h fun st hd lx=>⟨_,lx,by
   rw[Array.toList_setIfInBounds];exact VRs.set (vz.stays st hd fun _ _=>rfl) (la.2.stays st hd fun _ _=>rfl)⟩))
 |dict es=>
  refine Zl h fun hk h=>Za h fun l hl h=>Zl h fun hz h=> ?_;have pl:=No hl;obtain⟨p,r,el,b,eb⟩:=pl.2;have hle:=Nat.le_trans pl.1 (Nat.le_of_ble_eq_true hz);have put:=fun(h':Heap) (sb:Heap.SameBut (ρ (.id n)) s.heap h') (hq:Stays s.heap (Own Z.C σ ρ) h' (Own Z.C σ' ρ)→(∀l,Dom σ l→Dom σ' l)→DictRep Z.C σ' ρ h' (ρ (.id n)) l)=>P.r.put (o:= .dict es) h0 nofun h (h':=h') (fun b x hb _ g=>(sb.2 b hb).trans g) (fun z=>z.elim fun _ z=>z.elim nofun) hq;cases dd with
  |int i=>
   refine vy.int_e fun tk=>(DictRep.ints rep (Ae hl)).elim fun kvs d=> ?_;rw[show Z.C.ν i=i from Zo H.X.v0 hk];refine wpAny_setItem_pairs (knd:=intKind Z.C.prog Z.C.wld) (intKind_is Z.C.prog Z.C.wld i tk) d.1 (fun h' dh sb=>q.fin (s':={s with heap:=h',toks:=s.toks + 1}) P (put h' sb fun st hd=> ?_) rfl) (by rw[d.2.len];exact Nat.le_of_succ_le (Ba hle));have e1:=(IntEnts.put hk vz d.2 (Ua d.1) hl).stays st hd (fun _ _=>rfl);rw[el] at e1 ⊢;exact Yhk eb ⟨_,dh,e1⟩
  |tuple i=>
   refine Kv hk fun l1 ks l2=> ?_;have vy:RdD s.heap (Own Z.C σ ρ) (.tuple (mDs Z.C.ν i)) w:=vy;rw[Va H.X.v0 l1] at vy;refine(RdD.tup_e (M:=fun w=>∃b,w= .ref b) vy fun b _ _ _ _ _ _ _ _=>⟨b,rfl⟩).elim fun b e=>(DictRep.nk rep (Af hl)).elim fun xs d=> ?_;rw[e] at vy ⊢;refine wpAny_setItem_heap (knd:=Nb Z.C.prog Z.C.wld) P.rm.u65 (Ak l2 vy rfl) d.1 (fun h' dh sb=>q.fin (s':={s with heap:=h',toks:=_}) P (put h' sb fun st hd=> ?_) rfl) (by rw[d.2.len];exact Nat.le_of_succ_le (Ba hle));have e1:=(NkEnts.put l2 l1 vy vz d.2 (Ss d.1) hl).stays st hd (fun _ _=>rfl);rw[el] at e1 ⊢;exact Zs3 (Ku eb) ⟨_,dh,e1⟩
  |_=>exact nf hk
 |_=>exact nn h
end
theorem getC_cons{β:Type}{k:Int}{v:β}{l:List (Int×β)}{j:Int}:Zc ((k,v)::l) j=if j=k then some v else Zc l j:=by
 show bp (eqB k j) (some v) (Zc l j)=_;by_cases z:j=k
 ·rw[if_pos z,z,Sv];rfl
 ·rw[if_neg z,Bool.eq_false_iff.mpr fun q=>z (Zu q).symm];rfl
theorem Wr{β:Type}{i:Int}{v:β}:∀{l l':List (Int×β)},Sk l i v=some l'→(∀k,Zc l' k=if k=i then some v else Zc l k)∧(∃u,Zc l i=some u)∧l'.length=l.length
 | [],l',h=>nn h
 |(k,u)::r,l',h=>Vc (x:=some ((k,v)::r)) (y:=ob (Sk r i v) fun l=>some ((k,u)::l)) h (fun e q=>by
    cases Zu e;rw[← sj q];refine⟨fun j=> ?_,⟨u,getC_cons.trans (if_pos rfl)⟩,rfl⟩;rw[getC_cons,getC_cons];by_cases z:j=k
    ·rw[if_pos z,if_pos z]
    ·rw[if_neg z,if_neg z,if_neg z]) fun e h=>Za h fun r' g h=>by
    have ih:=Wr g;have ne:=Pf e;rw[← sj h];refine⟨fun j=> ?_,ih.2.1.elim fun u' e=>⟨u',(getC_cons.trans (if_neg (Ne.symm ne))).trans e⟩,congrArg (· + 1) ih.2.2⟩;rw[getC_cons,getC_cons];by_cases z:j=k
    ·rw[if_pos z,if_pos z,if_neg fun q=>ne (z.symm.trans q)]
    ·rw[if_neg z,if_neg z];exact ih.1 j
section
variable{C:Cx}{σ σ':St}{ρ ρ':Rho}{h h':Heap}{w w':Wd}
def Zr9(C:Cx)(ρ:Rho)(h:Heap)(w:Wd):Prop:=∃items,IsLx h (ρ .objs) items∧(items.size:Int)=C.ν w.nobj∧items.size≤w.bnd + C.slack∧∀k fs,Zc w.obj k=some fs→1≤C.ν k∧items[(C.ν k).toNat]? =some (.ref (ρ (.obj k)))
def Zr8(C:Cx)(ρ:Rho)(h:Heap)(w:Wd):Prop:=∃items,IsLx h (ρ .arrs) items∧(items.size:Int)=C.ν w.narr∧items.size≤w.bnd + C.slack∧∀k xs,Zc w.arr k=some xs→1≤C.ν k∧items[(C.ν k).toNat]? =some (.ref (ρ (.arr k)))
def Zzx(C:Cx)(ρ:Rho)(h:Heap)(k:Int)(fs:List (Int×Int)):Prop:=fs.length≤100∧∃kvs,h.DictOf (intKind C.prog C.wld) (ρ (.obj k)) kvs∧NumEnts C.ν fs kvs
def Zzv(C:Cx)(ρ:Rho)(h:Heap)(k:Int)(xs:List Int):Prop:=∃items,IsLx h (ρ (.arr k)) items∧Nums C.ν xs items.toList
def Zzy(C:Cx)(ρ:Rho)(h:Heap)(w:Wd):Prop:=∃f,h.IntMap (ρ .vers) f∧h.DictLe (ρ .vers) (w.bnd + C.slack)∧∀k v,Zc w.vers k=some v→(Zc w.obj k).isSome∧∃t,f (C.ν k)=some (.int (C.ν v) t)
theorem Yb(r:R C σ ρ h){I:Addr}(hn:h.get? I=none):C.K.lookup I=none:=by
 cases q:C.K.lookup I with
 |none=>rfl
 |some o=>rw[r.fr _ _ q] at hn;exact nn hn.symm
theorem Vg{a:Addr}{m n:Nat}(l:h.DictLe a m)(e:m≤n):h.DictLe a n:=fun o es ep g d=>Nat.le_trans (l o es ep g d) e
theorem RepW.chg{lcL:Lc}(W:RepW C σ ρ h w)(hw:σ.w=some w)(st:Z4 h (Own C σ ρ) h' (Own C σ' ρ'))(hr:∀l,Dom σ l→ρ' l=ρ l)(hid:∀n,ρ' (.id n)=ρ (.id n))(un:∀l,Z2 C σ l→l≠lcL→∀x,h.get? (ρ l)=some x→h'.get? (ρ l)=some x)
 (hlw:Lc.w≠lcL) (e1:w'.sid=w.sid) (e2:w'.pair=w.pair) (e3:σ'.base=σ.base) (b1:w.bnd≤w'.bnd) (b2:w'.bnd≤200000)
 (hob:(Lc.objs≠lcL∧w'.nobj=w.nobj∧∀k,(Zc w'.obj k).isSome=true→(Zc w.obj k).isSome=true)∨Zr9 C ρ' h' w')
 (har:(Lc.arrs≠lcL∧w'.narr=w.narr∧∀k,(Zc w'.arr k).isSome=true→(Zc w.arr k).isSome=true)∨Zr8 C ρ' h' w')
 (ho:∀k fs,Zc w'.obj k=some fs→(Zc w.obj k=some fs∧Lc.obj k≠lcL)∨Zzx C ρ' h' k fs) (ha:∀k xs,Zc w'.arr k=some xs→(Zc w.arr k=some xs∧Lc.arr k≠lcL)∨Zzv C ρ' h' k xs)
 (hv:(w'.vers=w.vers∧Lc.vers≠lcL∧∀k,(Zc w.obj k).isSome=true→(Zc w'.obj k).isSome=true)∨Zzy C ρ' h' w')
 (d1:∀k k',(Zc w'.obj k).isSome→(Zc w'.obj k').isSome→C.ν k=C.ν k'→k=k') (d2:∀k k',(Zc w'.arr k).isSome→(Zc w'.arr k').isSome→C.ν k=C.ν k'→k=k') (po:1≤C.ν w'.nobj) (pa:1≤C.ν w'.narr):RepW C σ' ρ' h' w':=by
 have dw:∀{l},Tz σ (fun _=>True)→Dom σ l→ρ' l=ρ l:=fun _ d=>hr _ d;have go:∀{l},Z2 C σ l→Dom σ l→l≠lcL→∀x,h.get? (ρ l)=some x→h'.get? (ρ' l)=some x:=fun{l} d dm ne x q=>hr l dm ▸ un l d ne x q;have lw:Tz σ fun _=>True:=Fo hw trivial;have bs:w.bnd + C.slack≤w'.bnd + C.slack:=Nat.add_le_add_right b1 _;have lo:∀{k fs},Zc w.obj k=some fs→Tz σ fun w=>(Zc w.obj k).isSome=true:=fun q=>Fo hw (congrArg Option.isSome q);have la:∀{k fs},Zc w.arr k=some fs→Tz σ fun w=>(Zc w.arr k).isSome=true:=fun q=>Fo hw (congrArg Option.isSome q)
 exact⟨W.main_e fun x d rd=>⟨x,by rw[hr .w lw,hr .objs lw,hr .arrs lw,hr .vers lw,e1,hid];exact Yi d (un .w lw hlw),e2 ▸ rd.staysQ st⟩,
  hob.elim (fun z=>W.objs_e fun items a b c d=>⟨items,Wx a (go (l:= .objs) lw lw z.1),z.2.1 ▸ b,Nat.le_trans c bs,fun k fs q=>Ro (z.2.2 k (congrArg Option.isSome q)) fun fs0 q0=>hr (.obj k) (lo q0) ▸ d k fs0 q0⟩) id,
  har.elim (fun z=>W.arrs_e fun items a b c d=>⟨items,Wx a (go (l:= .arrs) lw lw z.1),z.2.1 ▸ b,Nat.le_trans c bs,fun k fs q=>Ro (z.2.2 k (congrArg Option.isSome q)) fun fs0 q0=>hr (.arr k) (la q0) ▸ d k fs0 q0⟩) id,
  fun k fs q=>(ho k fs q).elim (fun z=>W.obj_e z.1 fun kvs l d b=>⟨l,kvs,Yi d (go (l:= .obj k) (lo z.1) (lo z.1) z.2),b⟩) id,
  fun k xs q=>(ha k xs q).elim (fun z=>W.arr_e z.1 fun items d b=>⟨items,Wx d (go (l:= .arr k) (la z.1) (la z.1) z.2),b⟩) id,
  hv.elim (fun z=>W.vers_e fun f a b c=>⟨f,Vx a (go (l:= .vers) lw lw z.2.1),Vg (Vt a b (go (l:= .vers) lw lw z.2.1)) bs,fun k v q=>have y:=c k v (z.1 ▸ q);⟨z.2.2 k y.1,y.2⟩⟩) id,
  d1,d2,by rw[e1,e3];exact W.sid,b2,po,pa⟩
theorem R.wld{lcN lcL:Lc}{D:Addr}(r:R C σ ρ h)(hw:σ.w=some w)(e:σ'={σ with w:=some w'})(hD:∀l,Z2 C σ l→ρ l≠D)(hK:C.K.lookup D=none)(hq:∀o vs n,h.get? D=some o→o.data≠ .seq vs n)
 (hdr:∀l,Dom σ l→ρ' l=ρ l) (hid:∀n,ρ' (.id n)=ρ (.id n)) (hL:Z2 C σ lcL) (hLi:(∀n,lcL≠ .id n)∧(∀n,lcL≠ .idd n)) (lv:∀l,Z2 C σ' l→Z2 C σ l∨(l=lcN∧ρ' l=D)) (dm:∀l,Dom σ l→Dom σ' l)
 (k:∀b x,b≠ρ lcL→b≠D→h.get? b=some x→h'.get? b=some x) (q:Z4 h (Own C σ ρ) h' (Own C σ' ρ')→(∀l,Z2 C σ l→l≠lcL→∀x,h.get? (ρ l)=some x→h'.get? (ρ l)=some x)→RepW C σ' ρ' h' w'):
 R C σ' ρ' h'∧(∀b x,b≠D→¬Own C σ ρ b→h.get? b=some x→h'.get? b=some x)∧(∀b,b≠D→¬Own C σ ρ b→¬Own C σ' ρ' b):=by
 have yl:X6 σ lcL:=by cases lcL <;> first |trivial |exact(hLi.1 _ rfl).elim |exact(hLi.2 _ rfl).elim
 have own:∀b,¬Own C σ ρ b→b≠ρ lcL:=fun b nb z=>nb ⟨lcL,hL,yl,z.symm⟩;have yg:∀l,X6 σ' l→X6 σ l:=fun l y=>by subst e;cases l <;> exact y
 have s1:∀b x,b≠D→¬Own C σ ρ b→h.get? b=some x→h'.get? b=some x:=fun b x hb nb g=>k b x (own b nb) hb g;have s2:∀b,b≠D→¬Own C σ ρ b→¬Own C σ' ρ' b:=fun b hb nb z=>z.elim fun l z=>(lv l z.1).elim (fun z1=>nb ⟨l,z1,yg l z.2.1,(hdr l (r.dom z1)).symm.trans z.2.2⟩) fun z1=>hb (z.2.2.symm.trans z1.2);have nD:∀{b o vs n},h.get? b=some o→o.data= .seq vs n→b≠D:=fun g z=>Y4 hq g z;have st:Z4 h (Own C σ ρ) h' (Own C σ' ρ'):=⟨fun b x _ _ nb g z=>s1 b x (nD g z) nb g,fun b x _ _ nb g z=>s2 b (nD g z) nb⟩;have un:∀l,Z2 C σ l→l≠lcL→∀x,h.get? (ρ l)=some x→h'.get? (ρ l)=some x:=fun l d ne x g=>k _ x (fun z=>ne (r.inj _ _ d hL z)) (hD l d) g;have ge:∀n,C.get σ' n=C.get σ n:=fun n=>by subst e;rfl
 have eb:σ'.base=σ.base:=by subst e;rfl
 have hfr:C.K.In h':=fun a o z=>s1 a o (fun q=>by rw[q,hK] at z;exact nn z) (fun q=>q.elim fun l q=>by rw[← q.2.2,r.far l q.1 q.2.1] at z;exact nn z) (r.fr a o z);refine⟨⟨hfr,fun n o e'=> ?_,fun u e'=> ?_,fun l l' dl dl' z=> ?_,fun l dl y=>(lv l dl).elim (fun z1=>(hdr l (r.dom z1)).symm ▸ r.far l z1 (yg l y)) fun z=>z.2.symm ▸ hK,by subst e;exact r.old,fun n a z=>⟨(hid n).trans (r.sta n a z).1,eb ▸ (r.sta n a z).2⟩,r.sysK,fun l dl z=>(lv l dl).elim (fun z1=>r.sys l z1 ((hdr l (r.dom z1)).symm.trans z)) fun z1=> ?_⟩,s1,s2⟩
 ·rw[ge] at e'
  by_cases od:o= .dead
  ·subst od;trivial
  ·exact(r.rep n o e').staysQ st dm hdr (r.at e') (un (.id n) ⟨o,e',od⟩ (Ne.symm (hLi.1 n))) (fun z=>z.elim fun c z=>z.elim fun vs z=>un (.idd n) ⟨c,vs,e'.trans (congrArg some z)⟩ (Ne.symm (hLi.2 n)))
 ·subst e;cases e';exact q st un
 ·refine(lv l dl).elim (fun z1=>(lv l' dl').elim (fun z2=> ?_) fun z2=> ?_) fun z1=>(lv l' dl').elim (fun z2=> ?_) fun z2=>z1.1.trans z2.1.symm
  ·rw[hdr l (r.dom z1),hdr l' (r.dom z2)] at z;exact r.inj _ _ z1 z2 z
  ·rw[hdr l (r.dom z1),z2.2] at z;exact(hD l z1 z).elim
  ·rw[hdr l' (r.dom z2),z1.2] at z;exact(hD l' z2 z.symm).elim
 ·have:=r.sysK
  rw[← z,z1.2,hK] at this;exact nf this
theorem I8(hw:σ.w=some w)(a:∀k,(Zc w.obj k).isSome=true→(Zc w'.obj k).isSome=true)(b:∀k,(Zc w.arr k).isSome=true→(Zc w'.arr k).isSome=true):∀l,Dom σ l→Dom {σ with w:=some w'} l:=fun l d=>by
 cases l with
 |id n=>exact d
 |idd n=>exact d
 |obj k=>exact d.elim fun u d=>⟨w',rfl,a k (sj (hw.symm.trans d.1) ▸ d.2)⟩
 |arr k=>exact d.elim fun u d=>⟨w',rfl,b k (sj (hw.symm.trans d.1) ▸ d.2)⟩
 |_=>exact⟨w',rfl,trivial⟩
theorem Hw{lcN:Lc}(hw:σ.w=some w)(a:∀k,(Zc w'.obj k).isSome=true→(Zc w.obj k).isSome=true∨Lc.obj k=lcN)(b:∀k,(Zc w'.arr k).isSome=true→(Zc w.arr k).isSome=true∨Lc.arr k=lcN):∀l,Z2 C {σ with w:=some w'} l→Z2 C σ l∨l=lcN:=fun l d=>by
 cases l with
 |id n=>exact .inl d
 |idd n=>exact .inl d
 |obj k=>exact d.elim fun u d=>(a k (sj d.1 ▸ d.2)).imp (fun z=>⟨w,hw,z⟩) id
 |arr k=>exact d.elim fun u d=>(b k (sj d.1 ▸ d.2)).imp (fun z=>⟨w,hw,z⟩) id
 |_=>exact .inl ⟨w,hw,trivial⟩
theorem R.putw{lc:Lc}(r:R C σ ρ h)(hw:σ.w=some w)(hlc:Z2 C σ lc)(hid:(∀n,lc≠ .id n)∧(∀n,lc≠ .idd n)∧.w≠lc∧.objs≠lc∧.arrs≠lc)
 (hs:w'.sid=w.sid∧w'.pair=w.pair∧w'.nobj=w.nobj∧w'.narr=w.narr∧w.bnd≤w'.bnd∧w'.bnd≤200000)
 (dob:∀k,(Zc w'.obj k).isSome=(Zc w.obj k).isSome) (dar:∀k,(Zc w'.arr k).isSome=(Zc w.arr k).isSome)
 (k:∀b x,b≠ρ lc→h.get? b=some x→h'.get? b=some x)
 (ho:∀k fs,Zc w'.obj k=some fs→(Zc w.obj k=some fs∧Lc.obj k≠lc)∨Zzx C ρ h' k fs)
 (ha:∀k xs,Zc w'.arr k=some xs→(Zc w.arr k=some xs∧Lc.arr k≠lc)∨Zzv C ρ h' k xs)
 (hv:(w'.vers=w.vers∧Lc.vers≠lc)∨Zzy C ρ h' w'):
 R C {σ with w:=some w'} ρ h'∧Stays h (Own C σ ρ) h' (Own C {σ with w:=some w'} ρ)∧(∀l,Dom σ l→Dom {σ with w:=some w'} l)∧σ.base=σ.base:=by
 have W:=r.rw w hw;have hn:=Zv h;have nD:∀{b x},h.get? b=some x→b≠h.objs.size:=fun g z=>by rw[z,hn] at g;exact nn g
 have dm:=I8 hw (w':=w') (fun k z=>(dob k).trans z) fun k z=>(dar k).trans z
 have z:=r.wld (ρ':=ρ) (h':=h') (w':=w') (lcN:= .w) hw rfl (fun l d=>(r.there d).elim fun x hx=>nD hx) (Yb r hn) (fun o _ _ z=>by rw[hn] at z;exact nn z) (fun _ _=>rfl) (fun _=>rfl) hlc ⟨hid.1,hid.2.1⟩
  (fun l d=> .inl ((Hw (lcN:= .id 0) hw (fun k z=> .inl ((dob k).symm.trans z)) (fun k z=> .inl ((dar k).symm.trans z)) l d).elim id fun e=>by subst e;exact d)) dm (fun b x hb _ g=>k b x hb g)
  fun st un=>W.chg (lcL:=lc) hw st (fun _ _=>rfl) (fun _=>rfl) un hid.2.2.1 hs.1 hs.2.1 rfl hs.2.2.2.2.1 hs.2.2.2.2.2 (.inl ⟨hid.2.2.2.1,hs.2.2.1,fun k z=>(dob k).symm.trans z⟩) (.inl ⟨hid.2.2.2.2,hs.2.2.2.1,fun k z=>(dar k).symm.trans z⟩) ho ha (hv.imp (fun z=>⟨z.1,z.2,fun k z=>(dob k).trans z⟩) id)
   (fun a b x y=>W.dis a b ((dob a).symm.trans x) ((dob b).symm.trans y)) (fun a b x y=>W.disA a b ((dar a).symm.trans x) ((dar b).symm.trans y)) (hs.2.2.1 ▸ W.po) (hs.2.2.2.1 ▸ W.pa)
 exact⟨z.1,⟨fun b x nb g=>z.2.1 b x (nD g) nb g,fun b x nb g=>z.2.2 b (nD g) nb⟩,dm,rfl⟩
theorem Nq{β:Type}{l l':List (Int×β)}{m:Int}{v:β}(g:Sk l m v=some l')(j:Int):(Zc l' j).isSome=(Zc l j).isSome:=by
 have z:=Wr g;rw[z.1];by_cases e:j=m
 ·rw[if_pos e,e];exact z.2.1.elim fun u e=>by rw[e];rfl
 ·rw[if_neg e]
theorem Qn{β:Type}{l l':List (Int×β)}{m:Int}{v:β}(g:Sk l m v=some l'){j:Int}{u:β}(q:Zc l' j=some u):(j=m∧u=v)∨(j≠m∧Zc l j=some u):=by
 rw[(Wr g).1] at q;by_cases e:j=m
 ·rw[if_pos e] at q;exact .inl ⟨e,(sj q).symm⟩
 ·rw[if_neg e] at q;exact .inr ⟨e,q⟩
theorem NumEnts.len{ν:Int→Int}:∀{l:List (Int×Int)} {kvs:List (Int×Value)},NumEnts ν l kvs→kvs.length=l.length
 | [],kvs,e=>by rw[show kvs=[] from e];rfl
 |(k,u)::r,kvs,e=>NumEnts.cons_e (M:=fun kvs=>kvs.length=r.length + 1) e fun _ _ _ h=>congrArg (· + 1) (NumEnts.len h)
theorem NumEnts.put{ν:Int→Int}{i k:Int}{tk:Tok}:∀{l l':List (Int×Int)} {kvs:List (Int×Value)},NumEnts ν l kvs→(kvs.map (·.1)).Nodup→Sk l k i=some l'→NumEnts ν l' (stored kvs k (.int (ν i) tk))∧Yo k=true
 | [],l',kvs,e,hn,g=>nn g
 |(j,u)::r,l',kvs,e,hn,g=>NumEnts.cons_e (M:=fun kvs=>(kvs.map (·.1)).Nodup→NumEnts ν l' (stored kvs k (.int (ν i) tk))∧Yo k=true) e (fun tk' es' h1 h2 hn=>Vc (x:=some ((j,i)::r)) (y:=ob (Sk r k i) fun l=>some ((j,u)::l)) g
    (fun e q=>by
      cases Zu e;rw[Qu hn]
      exact sj q ▸ ⟨⟨tk,es',rfl,h1,h2⟩,h1⟩)
    fun e g=>Za g fun r' g1 g=>by
     have ih:=NumEnts.put (tk:=tk) h2 (List.nodup_cons.mp hn).2 g1;rw[Qv (Pf e)]
     exact sj g ▸ ⟨⟨tk',_,rfl,h1,ih.1⟩,ih.2⟩) hn
end
section
variable{Z:Zx}{lo:Zd}{σ σ':St}{w:Wd}
theorem Gy(H:ZOk Z){m k i:Int}(hw:σ.w=some w)(h:Zov σ w m k i=some σ'):Vd Z lo (.loc (.obj m)) (.dat (.int k)) (.dat (.int i)) σ σ':=Za h fun fs h1 h=>Za h fun fs' h2 h=>Za h fun l h3 h=>sj h ▸ fun A s ρ u y z Q E P vx vy vz q=>vx.loc_e fun _=>vy.int_e fun t1=>vz.int_e fun t2=>by
 have W:=P.r.rw w hw;refine W.obj_e h1 fun kvs hl d1 d2=> ?_;have e:=NumEnts.put (tk:=t2) d2 (Ua d1) h2;rw[show Z.C.ν k=k from Zo H.X.v0 e.2]
 exact wpAny_setItem_pairs (knd:=intKind Z.C.prog Z.C.wld) (intKind_is Z.C.prog Z.C.wld k t1) d1 (fun h' dh sb=>q.fin (s':={s with heap:=h',toks:=s.toks + 1}) P
  (P.r.putw (w':={w with obj:=l}) hw (lc:= .obj m) (Hu hw h1) ⟨nofun,nofun,nofun,nofun,nofun⟩ ⟨rfl,rfl,rfl,rfl,Nat.le_refl _,W.bd⟩ (Nq h3) (fun _=>rfl) (fun b x hb g=>(sb.2 b hb).trans g)
    (fun j f q=>(Qn h3 q).elim (fun z=> .inr (by rw[z.1,z.2];exact⟨(Wr h2).2.2 ▸ hl,_,dh,e.1⟩)) fun z=> .inl ⟨z.2,fun u=>z.1 (Lc.obj.inj u)⟩) (fun j xs q=> .inl ⟨q,nofun⟩) (.inl ⟨rfl,nofun⟩)) rfl) (by rw[d2.len];exact Nat.le_of_succ_le (Ba (Nat.le_trans hl (by decide))))
theorem Gx(H:ZOk Z){m k i:Int}(hw:σ.w=some w)(h:Zou σ w m k i=some σ'):Vd Z lo (.loc (.arr m)) (.dat (.int k)) (.dat (.int i)) σ σ':=Za h fun xs h1 h=>Zl h fun hk h=>Za h fun xs' h2 h=>Za h fun l h3 h=>P6 h2 fun p0 p1 p2=>sj h ▸ fun A s ρ u y z Q E P vx vy vz q=>vx.loc_e fun _=>vy.int_e fun t1=>vz.int_e fun t2=>by
 have W:=P.r.rw w hw;refine W.arr_e h1 fun items la d2=>la.elim fun n la=> ?_;rw[show Z.C.ν k=k from Rg H.X.v0 hk]
 exact Ti (IsL.isList la) p0 (A3 hk) (P8 p0 p1 d2.len) (q.fin (s':={s with heap:=s.heap.update (ρ (.arr m)) (Obj.mapSeq (·.setIfInBounds k.toNat (.int (Z.C.ν i) t2)))}) P
  (P.r.putw (w':={w with arr:=l}) hw (lc:= .arr m) (Ht hw h1) ⟨nofun,nofun,nofun,nofun,nofun⟩ ⟨rfl,rfl,rfl,rfl,Nat.le_refl _,W.bd⟩ (fun _=>rfl) (Nq h3) (fun b x hb g=>by rw[Heap.get?_update_other _ _ (Ne.symm hb)];exact g)
    (fun j f q=> .inl ⟨q,nofun⟩) (fun j f q=>(Qn h3 q).elim (fun z=> .inr (by rw[z.1,z.2,p2];exact⟨_,⟨_,la.update _⟩,by rw[Array.toList_setIfInBounds];exact Nums.set d2⟩)) fun z=> .inl ⟨z.2,fun u=>z.1 (Lc.arr.inj u)⟩) (.inl ⟨rfl,nofun⟩)) rfl)
theorem Q0(H:ZOk Z){k i:Int}{l:List (Int×Int)}(hw:σ.w=some w)(hz:w.bnd≤100000)(g1:∀j,Zc l j=if j=k then some i else Zc w.vers j)(g2:(∃u,Zc w.vers k=some u)∨(Zc w.obj k).isSome=true):Vd Z lo (.loc .vers) (.dat (.int k)) (.dat (.int i)) σ {σ with w:=some {w with vers:=l,bnd:=w.bnd + 1}}:=fun A s ρ u y z Q E P vx vy vz q=>vx.loc_e fun _=>vy.int_e fun t1=>vz.int_e fun t2=>by
 have W:=P.r.rw w hw;refine W.vers_e fun f m1 m2 m3=> ?_;have ho:(Zc w.obj k).isSome=true:=g2.elim (fun z=>z.elim fun u e=>(m3 k u e).1) id;have:=H.X.slack
 exact wpAny_setItem_intMap_le m1 m2 (by rw[sizeLine_eq];omega) fun h' hm hd sb=>q.fin (s':={s with heap:=h',toks:=s.toks + 1}) P
  (P.r.putw (w':={w with vers:=l,bnd:=w.bnd + 1}) hw (lc:= .vers) ⟨w,hw,trivial⟩ ⟨nofun,nofun,nofun,nofun,nofun⟩ ⟨rfl,rfl,rfl,rfl,Nat.le_succ _,Nat.le_trans (Nat.succ_le_succ hz) (by decide)⟩ (fun _=>rfl) (fun _=>rfl) (fun b x hb g=>(sb.2 b hb).trans g) (fun j f q=> .inl ⟨q,nofun⟩) (fun j f q=> .inl ⟨q,nofun⟩)
    (.inr ⟨_,hm,Vg hd (Nat.le_of_eq (Nat.add_right_comm _ _ _)),fun j u e=>by
      have e:Zc l j=some u:=e;rw[g1] at e;by_cases z:j=k
      ·rw[if_pos z] at e
       rw[z,← sj e];exact⟨ho,t2,if_pos rfl⟩
      ·rw[if_neg z] at e
       have y:=m3 j u e
       exact⟨y.1,y.2.elim fun tk y2=>⟨tk,(if_neg fun x=>z (W.dis j k y.1 ho x)).trans y2⟩⟩⟩)) rfl
theorem Gz(H:ZOk Z){k i:Int}(hw:σ.w=some w)(h:Zow σ w k i=some σ'):Vd Z lo (.loc .vers) (.dat (.int k)) (.dat (.int i)) σ σ':=Zl h fun hz h=>by
 cases e:Sk w.vers k i with
 |some l=>rw[e] at h;exact sj h ▸ Q0 H hw (Nat.le_of_ble_eq_true hz) (Wr e).1 (.inl (Wr e).2.1)
 |none=>rw[e] at h;exact Za h fun fs h1 h=>sj h ▸ Q0 H hw (Nat.le_of_ble_eq_true hz) (fun j=>getC_cons) (.inr (congrArg Option.isSome h1))
theorem Eo(H:ZOk Z){v x y:V}(h:En Z.C.T σ v x y=some σ'):Vd Z lo x y v σ σ':=Ew (M:=fun x=>Vd Z lo x y v σ σ') h fun l h=>Rh (M:=fun y=>Vd Z lo _ y v σ σ') h fun d h=>by
 cases l with
 |id n=>exact Za h fun o h0 h=>Az H h0 h
 |vers=>exact Vf (M:=fun y=>Vd Z lo _ (.dat y) v σ σ') h fun k h=>Q6 (M:=fun v=>Vd Z lo _ _ v σ σ') h fun i h=>Za h fun w hw h=>Gz H hw h
 |obj m=>exact Vf (M:=fun y=>Vd Z lo _ (.dat y) v σ σ') h fun k h=>Q6 (M:=fun v=>Vd Z lo _ _ v σ σ') h fun i h=>Za h fun w hw h=>Gy H hw h
 |arr m=>exact Vf (M:=fun y=>Vd Z lo _ (.dat y) v σ σ') h fun k h=>Q6 (M:=fun v=>Vd Z lo _ _ v σ σ') h fun i h=>Za h fun w hw h=>Gx H hw h
 |_=>exact nn h
end
theorem Yik{prog:Program}{w:World}{A:Around}{K:Frag}{Cl:Addr}{R:Result→Shared→Prop}{s:Shared}{x dx:Addr}{ox od:Obj}{name:Str}{tk:Tok}{v:Value}{es:List DictEntry}{n:Nat}(X:K.In s.heap)
 (I:InstAt s.heap x ox Cl (some od)) (hd:ox.dict=some dx) (hp:plainOver K Cl=true) (ht:takerIn K Cl name=some none) (hh:(clsIn K Cl).any (·.hasDict)=true)
 (e0:od=dictOf es n) (hr:es.any (·.refKey)=false) (hz:es.length≤999)
 (h:R (.ok (.ret .none)) {s with heap:=s.heap.update dx (Obj.putName name (PyData.keyHash w.params name) (.str name s.toks) v),toks:=s.toks + 1}):
 codeAny (model prog w) A (.call (.builtin "object.__setattr__") ⟨[.ref x,.str name tk,v],[]⟩) R s:=by
 refine osa_open X I hp ht fun b=> ?_;obtain⟨cd,hc,hd'⟩:=any_some hh;obtain⟨hx,hcl,hn,D⟩:=I;obtain⟨oc,odi,oda,osl⟩:=ox;dsimp only at hcl hd;subst hcl hd;dsimp only at D;subst e0;refine wpAny_bind (wpAny_pure (wpAny_bind (wpAny_bind (wpAny_loadPart hx (wpAny_bind ((looks_clsIn X hc).here ?_))))));rw[hd'];refine wpAny_pure (a:=some dx) (wpAny_bind (wpAny_pure (wpAny_bind ?_)));unfold nsSet;refine wpAny_bind (wpAny_bind (wpAny_askSetting (wpAny_pure (wpAny_bind (wpAny_mkText (wpAny_bind (wpAny_loadPart D ?_)))))));have c:(!(es.toArray).any (·.key.isStr name)&&(es.toArray).any (·.refKey))=false:=by
  rw[show(es.toArray).any (·.refKey)=es.any (·.refKey) by simp,hr,Bool.and_false]
 dsimp only;rw[aRefKeyMayBeTheName_at,c];refine wpAny_updatePart D ?_;have D':(s.heap.update dx (Obj.putName name (PyData.keyHash w.params name) (.str name s.toks) v)).get? dx=some (dictOf (putL name (PyData.keyHash w.params name) (.str name s.toks) v es) (putN name es n)):=by
  rw[← putName_dict];exact Heap.get?_update_self _ D (by rw[putName_dict];rfl)
 have hlen:(putL name (PyData.keyHash w.params name) (.str name s.toks) v es).length≤es.length + 1:=by
  clear D D' h c hr hz;induction es with
  |nil=>exact Nat.le_refl _
  |cons e r ih=>
   unfold putL;split
   ·simp
   ·simp only[List.length_cons];omega
 refine wpAny_bind (wpAny_lookBehind D' (pastItsLine_dict (by rw[List.size_toArray,sizeLine_eq];omega)) ?_);exact wpAny_pure h
section
variable{Z:Zx}{C:Cx}{σ:St}{ρ:Rho}{h:Heap}
theorem Atts.put{v:V}{x:Value}{nm:Str}{hsh:Int}{tk:Tok}{a:Nat}(hx:VR C σ ρ h v x)(h2:C.nm a=nm):∀{vs vs':List V} {as:List Nat} {es:List DictEntry} {p:Nat},Atts C σ ρ h as vs es→as[p]? =some a→
 (∀i b,i < p→as[i]? =some b→C.nm b≠nm)→Zy8 vs p v=some vs'→Atts C σ ρ h as vs' (putL nm hsh (.str nm tk) x es)
 | [],vs',as,es,p,A,h1,h3,h4=>by
   refine Zl h4 fun h5 h4=> ?_;have e:p=0:=Nat.eq_of_beq_eq_true h5;rw[e] at h1;rw[← sj h4,show es=[] by cases as <;> exact A];cases as with
   |nil=>exact nn h1
   |cons b as=>
    refine⟨_,[],tk,rfl,by rw[← h2,sj h1],hx,?_⟩;cases as <;> rfl
 |u::vs,vs',as,es,p,A,h1,h3,h4=>A.cons_e (M:=fun as es=>as[p]? =some a→(∀i b,i < p→as[i]? =some b→C.nm b≠nm)→Atts C σ ρ h as vs' (putL nm hsh (.str nm tk) x es)) (fun b as e es' tk' k1 k2 k3 h1 h3=>by
  cases p with
  |zero=>
   rw[← sj (show some (v::vs)=some vs' from h4)];refine⟨⟨e.hash,e.key,x⟩,es',tk',if_pos ?_,k1,hx,k3⟩;rw[k1,← h2,← sj h1];exact O2
  |succ p=>
   have h4:(Zy8 vs p v).map (u:: ·)=some vs':=by
    refine Eq.trans ?_ h4;show(bp (Nat.blt p vs.length) (some (Z7 vs p v)) (gd (Nat.beq p vs.length) (some (vs++[v])))).map (u:: ·)=bp (Nat.blt p vs.length) (some (u::Z7 vs p v)) (gd (Nat.beq p vs.length) (some (u::(vs++[v]))));cases Nat.blt p vs.length with
    |true=>rfl
    |false=>cases Nat.beq p vs.length <;> rfl
   refine Mo h4 fun vs1 h4 e4=> ?_;rw[← e4]
   exact⟨e,putL nm hsh (.str nm tk) x es',tk',if_neg (by rw[k1];exact Sz (h3 0 b (Nat.succ_pos _) rfl)),k1,k2,Atts.put hx h2 (p:=p) k3 h1 (fun i c hi hc=>h3 (i + 1) c (Nat.succ_lt_succ hi) hc) h4⟩) h1 h3
theorem Atts.noRef:∀{vs:List V} {as:List Nat} {es:List DictEntry},Atts C σ ρ h as vs es→es.any (·.refKey)=false∧es.length=vs.length∧vs.length≤as.length
 | [],as,es,A=>by
   rw[show es=[] by cases as <;> exact A];exact⟨rfl,rfl,Nat.zero_le _⟩
 |u::vs,as,es,A=>A.cons_e (M:=fun as es=>es.any (·.refKey)=false∧es.length=vs.length + 1∧vs.length + 1≤as.length) fun x as e es' tk k1 k2 k3=>by
  have ih:=Atts.noRef k3;refine⟨?_,congrArg (· + 1) ih.2.1,Nat.succ_le_succ ih.2.2⟩;rw[List.any_cons,ih.1,Bool.or_false];unfold DictEntry.refKey;rw[k1]
@[elab_as_elim] theorem Xz {a a':Fl} {b b':Zd} {c c':St} (h:some (a,b,c)=some (a',b',c')) {M:Fl→Zd→St→Prop} (k:M a b c):M a' b' c':=by
  cases h;exact k
@[elab_as_elim] theorem B1 {lo:Option Zd} {σ:St} {f:Fl} {l:Zd} {c:St} (h:nx lo σ=some (f,l,c)) {M:Fl→Zd→St→Prop} (k:∀l,lo=some l→M .next l σ):M f l c:=Za h fun l e h=>Xz h (k l e)
@[elab_as_elim] theorem B0 {lo:Zd} {σ:Option St} {f:Fl} {l:Zd} {c:St} (h:nS lo σ=some (f,l,c)) {M:Fl→Zd→St→Prop} (k:∀c,σ=some c→M .next lo c):M f l c:=Za h fun c e h=>Xz h (k c e)
theorem Zpc{p:Pos}:SSt Z P7 (.Pass p):=fun lo σ fl lo' σ' ev=>Xz ev fun A s ρ Q E P q=>wpAny_Pass (q.nx P (.refl ..))
theorem Zpd{p:Pos}:SSt Z Au (.Return none p):=fun lo σ fl lo' σ' ev=>Xz ev fun A s ρ Q E P q=>wpAny_Return_none (q ρ s _ P (.refl ..) ⟨.none,rfl,rfl⟩)
theorem Zzj{e:Clo}{x:Expr}{p:Pos}(he:G9 Z e x):SSt Z (Zr4 e) (.Return (some x) p):=fun lo σ fl lo' σ' ev=>Yk ev fun v σ1 h1 ev=>Xz ev fun A s ρ Q E P q=>wpAny_Return_some (he lo σ v σ1 h1 A s ρ _ _ P fun ρ1 s1 u P1 k1 v1=>q ρ1 s1 _ P1 k1.l ⟨u,rfl,v1⟩)
theorem Nf{C:Cx}{t:Tn}{env:Env}(N:Yd C t env):interactive env=false:=by unfold interactive;rw[N.kind];rfl
theorem Yj8(H:ZOk Z){e:Clo}{x:Expr}{p:Pos}(he:S2 Z e x)(hc:(!Zq x)=true):SSt Z (sEx e) (.Expr x p):=fun lo σ fl lo' σ' ev=>Yk ev fun v σ1 h1 ev=>Xz ev fun A s ρ Q E P q=>wpAny_Expr_any (he.s lo σ v σ1 h1 A s ρ _ _ P fun ρ1 s1 u P1 k1 v1=>q ρ1 s1 _ P1 k1.l rfl) (Nf H.N) (V3 he.p hc _ _)
theorem Zzd(H:ZOk Z){e:Clo}{x:Expr}{j:Nat}{n:Str}{np p:Pos}(he:S2 Z e x)(hcc:Zq x=true→Zdf Z e x)(hj:okN Z.t .local j n=true)(hc:(!Zq x || Tf (.Name n np) x)=true):SSt Z (Zr1 j e) (.Assign [.Name n np] x p):=fun lo σ fl lo' σ' ev=>Yk ev fun v σ1 h1 ev=>B1 ev fun l h2=>by
 cases hx:Zq x with
 |false=>exact fun A s ρ Q E P q=>wpAny_Assign_Name (he.s lo σ v σ1 h1 A s ρ _ _ P fun ρ1 s1 u P1 k1 v1=>Xm H hj P1 v1 h2 _ _ fun s2 P2 k2=>(q.after k1.l).nx P2 k2) (V3 he.p (by rw[hx];rfl) _ _)
 |true=>
  rw[hx] at hc;exact hcc hx j n np p hj hc lo σ v σ1 l h1 h2
theorem Zzf{c:Clo}{b o:Ye}{x:Expr}{y z:List Stmt}{p:Pos}(hc:S2 Z c x)(hb:SSs Z b y)(ho:SSs Z o z):SSt Z (Zr2 c b o) (.If x y z p):=fun lo σ fl lo' σ' ev=>Yk ev fun v σ1 h1 ev=>Za ev fun t h2 ev A s ρ Q E P q=>
 wpAny_If (hc.t lo σ t σ1 (Vq h2 h1) A s ρ _ _ P fun ρ1 s1 P1 k1=>by
  cases t with
  |true=>exact hb lo σ1 fl lo' σ' ev A s1 ρ1 _ _ P1 (q.after k1.l)
  |false=>exact ho lo σ1 fl lo' σ' ev A s1 ρ1 _ _ P1 (q.after k1.l))
theorem Zpb:SSs Z P7 []:=fun lo σ fl lo' σ' ev=>Xz ev fun A s ρ Q E P q=>wpAny_execs_nil (q.nx P (.refl ..))
theorem Zpe{a b:Ye}{st:Stmt}{sts:List Stmt}(ha:SSt Z a st)(hb:SSs Z b sts):SSs Z (Ygu a b) (st::sts):=fun lo σ fl lo' σ' ev A s ρ Q E P q=>Zqy ev (fun lo1 σ1 h1 ev=>wpAny_execs_cons (ha lo σ _ lo1 σ1 h1 A s ρ _ _ P fun ρ1 s1 f P1 k1 fr=>by
 rw[show f= .next from fr]
 exact hb lo1 σ1 fl lo' σ' ev A s1 ρ1 _ _ P1 (q.after k1)))
 fun v lo1 σ1 h1 e=>wpAny_execs_cons (ha lo σ _ lo1 σ1 h1 A s ρ _ _ P fun ρ1 s1 f P1 k1 fr=>fr.elim fun x fr=>by
  rw[fr.1];cases e
  exact q ρ1 s1 _ P1 k1 ⟨x,rfl,fr.2⟩)
def Xx(Z:Zx)(tg:Expr)(b:V→Zd→Option Zd):Prop:=∀v lo lo1,b v lo=some lo1→∀A s σ ρ x Q E,Pre Z lo A s σ ρ→VR Z.C σ ρ s.heap v x→
 (∀s',Pre Z lo1 A s' σ ρ→ExtL Z.C Z.env.locals σ ρ s σ ρ s'→Q () s')→Z.wp A (assign tg Z.env x) Q E s
theorem Ok(H:ZOk Z){j:Nat}{n:Str}{p:Pos}(hj:okN Z.t .local j n=true):Xx Z (.Name n p) (Yv j):=fun v lo lo1 hb A s σ ρ x Q E P vx q=>wpAny_assign_Name (Xm H hj P vx hb Q E q)
theorem Zzr{l:List D}{f:D→D→Option Zd}{r:Zd}(h:two? l f=some r){M:List D→Prop}(k:∀a b,f a b=some r→M [a,b]):M l:=by
 cases l with
 |nil=>exact nn h
 |cons a l=>cases l with
  |nil=>exact nn h
  |cons b l=>cases l with
   |nil=>exact k a b h
   |cons _ _=>exact nn h
theorem Ol(H:ZOk Z){j k:Nat}{m n:Str}{kk:_}{p mp np:Pos}(h1:okN Z.t .local j m=true)(h2:okN Z.t .local k n=true):Xx Z (.Tuple [.Name m mp,.Name n np] kk p) (Lg j k):=fun v lo lo1 hb A s σ ρ xv Q E P vx q=>
 Rh (M:=fun v=>VR Z.C σ ρ s.heap v xv→_) hb (fun d hb=>Mf (M:=fun d=>VR Z.C σ ρ s.heap (.dat d) xv→_) hb fun l hb=>Zzr (M:=fun l=>VR Z.C σ ρ s.heap (.dat (.tuple l)) xv→_) hb fun a b hb=>Zl hb fun hl hb vx=>vx.tup_e fun ad o vs n' pa la ca da ra _=>by
  obtain⟨xa,vs',e1,ra1,xb,vs'',e2,ra2,e3⟩:=ra;rw[e2,show vs''=[] from e3] at e1;have hsz:vs.size=2:=by rw[← Array.length_toList,e1];rfl
  refine assign_Tuple_tuple P.rm.1 ⟨o,la,ca,n',da⟩ (by rw[hsz];rfl) rfl fun h' he=> ?_;have grow:∀b o,s.heap.get? b=some o→h'.get? b=some o:=fun b o g=>he b o (Nat.ne_of_lt (Heap.lt_size g)) g;have k0:Ext Z.C σ ρ s σ ρ {s with heap:=h'}:= .grow grow rfl;rw[e1];refine assignInOrder_cons (wpAny_assign_Name (Xm (lo1:=Z7 lo j (some (.dat a))) H h1 (P.grow (s':={s with heap:=h'}) grow rfl) (show VR Z.C σ ρ h' (.dat a) xa from RdD.stays k0.stays ra1) (by unfold Yv;rw[(a2 hl).1];rfl) _ _ fun s1 P1 k1=> ?_));refine assignInOrder_cons (wpAny_assign_Name (Xm (lo1:=Z7 (Z7 lo j (some (.dat a))) k (some (.dat b))) H h2 P1 (show VR Z.C σ ρ s1.heap (.dat b) xb from ?_) (by unfold Yv;rw[Qq,(a2 hl).2];rfl) _ _ fun s2 P2 k2=> ?_))
  ·exact(P.F.ext k0).ns.elim fun m hm=>RdD.staysQ (k1.q (Ns.noSeq hm)) (RdD.stays k0.stays ra2)
  ·exact assignInOrder_nil (q s2 (sj hb ▸ P2) ((k0.l.trans k1).trans k2))) vx
theorem Zp4(H:ZOk Z){e:Clo}{x:Expr}{j k:Nat}{m n:Str}{kk:_}{p tp mp np:Pos}(he:S2 Z e x)(h1:okN Z.t .local j m=true)(h2:okN Z.t .local k n=true)(hc:(!Zq x)=true)(ht:(!R8 x)=true):SSt Z (Gq j k e) (.Assign [.Tuple [.Name m mp,.Name n np] kk tp] x p):=fun lo σ fl lo' σ' ev=>Yk ev fun v σ1 h ev=>B1 ev fun l hb A s ρ Q E P q=>
 Assign_Tuple (he.s lo σ v σ1 h A s ρ _ _ P fun ρ1 s1 u P1 k1 v1=>Ol H h1 h2 v lo l hb A s1 σ1 ρ1 u _ _ P1 v1 fun s2 P2 k2=>(q.after k1.l).nx P2 k2) (show swapsWithSole [Expr.Tuple [.Name m mp,.Name n np] kk tp] x p.line Z.env=pure false from V3 (env:=Z.env) he.p hc (some (Expr.Tuple [.Name m mp,.Name n np] kk tp)) p.line)
  (U5 (M:=fun x=>(!R8 x)=true→swappedStores [Expr.Tuple [.Name m mp,.Name n np] kk tp] x Z.env=pure none) he.p (fun _ _ _ _ _=>rfl) (fun _ _ _ _ _ _=>rfl) (fun _ _ _ _ _=>rfl) (fun _ _ _ _ _ _=>rfl) (fun _ _ _ _ _=>rfl) (fun _ _ _ _ _ _=>rfl) (fun _ _ _ _ _ _=>rfl) (fun _ _ _ _ _ _=>rfl) (fun _ _ _ _ _=>rfl) (fun _ _ _ _ _=>rfl) (fun _ _ _ _ _=>rfl) (fun _ _ _ _=>rfl) (fun _ _ _ _=>rfl) (fun _ _ _ _ h=>nf h) (fun _ _ _ _ h _=>nf h) ht)
theorem Zpg(H:ZOk Z){o i e:Clo}{a b x:Expr}{ap p:Pos}(ho:S2 Z o a)(hi:S2 Z i b)(he:S2 Z e x)(hc:(!Zq x)=true):SSt Z (Gu Z.C.T o i e) (.Assign [.Subscript a b ap] x p):=fun lo σ fl lo' σ' ev=>Yk ev fun v σ1 h1 ev=>Yk ev fun y σ2 h2 ev=>Yk ev fun z σ3 h3 ev=>B0 ev fun σ4 h4 A s ρ Q E P q=>
 wpAny_Assign_Subscript (he.s lo σ v σ1 h1 A s ρ _ _ P fun ρ1 s1 u P1 k1 v1=>two ho.s hi.s h2 h3 P1 fun ρ3 s3 w z P3 k3 v2 v3=>Eo H h4 A s3 ρ3 w z u _ _ P3 v2 v3 (v1.ext k3) fun s4 P4 k4=>((q.after k1.l).after k3.l).nx P4 k4.l) (V3 he.p hc _ _)
theorem Zdq{a b v:V}(h:Zdp a b=some v){M:V→V→V→Prop}(k:∀x y z,Tt x y=some z→M (.dat (.int x)) (.dat (.int y)) (.dat (.int z))):M a b v:=Q6 (M:=fun a=>M a b v) h fun x h=>Q6 (M:=fun b=>M _ b v) h fun y h=>Za h fun z e h=>sj h ▸ k x y z e
theorem Zp5(H:ZOk Z){e:Clo}{x:Expr}{j:Nat}{n:Str}{np p:Pos}(he:S2 Z e x)(hj:okN Z.t .local j n=true):SSt Z (Gr j e) (.AugAssign (.Name n np) .Add x p):=fun lo σ fl lo' σ' ev=>Za ev fun o g1 ev=>Za ev fun a g2 ev=>Yk ev fun b σ1 h1 ev=>Za ev fun v g3 ev=>B1 ev fun l g4 A s ρ Q E P q=>P.F.at_.elim fun m a=>by
 have o:=Ym H.N hj;obtain⟨n',k',x',z1,z2,z3⟩:=a.2 j _ (g1.trans (congrArg some g2));cases z1.symm.trans o.1;refine wpAny_AugAssign_Name (wpAny_loadName_local H.N.kind o.2.1 a.1 z2 (he.s lo σ _ σ1 h1 A s ρ _ _ P fun ρ1 s1 u P1 k1 v1=> ?_));refine Zdq (M:=fun a b v=>VR Z.C σ ρ s.heap a x'→VR Z.C σ1 ρ1 s1.heap b u→Yv j v lo=some l→Z.wp A (inplaceOp .Add x' u) _ E s1) g3 (fun x y z e z3 v1 g4=>z3.int_e fun t1=>v1.int_e fun t2=>PyProof.Rows.iadd_int ?_) z3 v1 g4;have k2:Ext Z.C σ1 ρ1 s1 σ1 ρ1 {s1 with toks:=s1.toks + 1}:= .grow (fun _ _ g=>g) rfl;exact Xm (s:={s1 with toks:=s1.toks + 1}) H hj (P1.grow (fun _ _ g=>g) rfl) (v:= .dat (.int z)) ⟨s1.toks,by rw[show Z.C.ν z=_ from Sp H.X.v0 e]⟩ g4 _ _ fun s2 P2 k3=>(q.after (k1.trans k2).l).nx P2 k3
theorem Za0{T:Tb}{y av:V}(h:Qw T σ (.loc .vers) y=some av){M:V→V→Prop}(k:∀k w i,σ.w=some w→Zc w.vers k=some i→M (.dat (.int k)) (.dat (.int i))):M y av:=Rh (M:=fun y=>M y av) h fun d h=>Vf (M:=fun d=>M (.dat d) av) h fun i h=>Za h fun w hw h=>Za h fun v hv h=>sj h ▸ k i w v hw hv
theorem Zp6(H:ZOk Z){o i e:Clo}{a b x:Expr}{ap p:Pos}(ho:S2 Z o a)(hi:S2 Z i b)(he:S2 Z e x):SSt Z (As Z.C.T o i e) (.AugAssign (.Subscript a b ap) .Add x p):=fun lo σ fl lo' σ' ev=>Yk ev fun ov σ1 h1 ev=>Ew (M:=fun ov=>o lo σ=some (ov,σ1)→_) ev (fun lc ev=>Zsu (M:=fun lc=>o lo σ=some (.loc lc,σ1)→_) ev fun ev h1=>Yk ev fun y σ2 h2 ev=>Za ev fun av g1 ev=>Za0 (M:=fun y av=>i lo σ1=some (y,σ2)→(bd (e lo σ2) fun b σ3=>ob (Zdp av b) fun v=>nS lo (En Z.C.T σ3 v (.loc .vers) y))=some (fl,lo',σ')→WS Z (.AugAssign (.Subscript a b ap) .Add x p) lo σ fl lo' σ') g1 (fun k w ii hw hg h2 ev=>Yk ev fun bv σ3 h3 ev=>Za ev fun v g2 ev=>B0 ev fun σ4 g3 A s ρ Q E P q=>by
 refine wpAny_AugAssign_Subscript_any (two ho.s hi.s h1 h2 P fun ρ2 s2 u w' P2 k2 v1 v2=>v1.loc_e fun d1=>v2.int_e fun t2=>(P2.r.rw w hw).vers_e fun f l1 l2 l3=>(l3 k ii hg).2.elim fun tk m2=>wpAny_getItem_intMap l1 m2 ?_) (fun ov iv new=>U5 (M:=fun b=>augStore b ov iv new=(do holding [new,ov,iv] (setItem ov iv new);release [new,ov,iv] [];pure .next)) hi.p (fun _ _ _ _=>rfl) (fun _ _ _ _ _=>rfl) (fun _ _ _ _=>rfl) (fun _ _ _ _ _=>rfl) (fun _ _ _ _=>rfl) (fun _ _ _ _ _=>rfl) (fun _ _ _ _ _=>rfl) (fun _ _ _ _ _=>rfl) (fun _ _ _ _=>rfl) (fun _ _ _ _=>rfl) (fun _ _ _ _=>rfl) (fun _ _ _=>rfl) (fun _ _ _=>rfl) (fun _ _ _ _=>rfl) (fun _ _ _ _ h=>nf h));refine he.s lo σ2 _ σ3 h3 A {s2 with toks:=s2.toks + 1} ρ2 _ _ (P2.grow (fun _ _ g=>g) rfl) fun ρ3 s3 w3 P3 k3 v3=> ?_;refine Q6 (f:=fun y=>ob (Tt ii y) fun z=>some (V.dat (PyData.int z))) (M:=fun bv=>VR Z.C σ3 ρ3 s3.heap bv w3→Z.wp A (inplaceOp .Add (.int (Z.C.ν ii) tk) w3) _ E s3) g2 (fun jj g2 v3=>Za g2 fun z e g2=>v3.int_e fun t3=>PyProof.Rows.iadd_int ?_) v3;rw[← sj g2] at g3;have kt2:Ext Z.C σ3 ρ3 s3 σ3 ρ3 {s3 with toks:=s3.toks + 1}:= .grow (fun _ _ g=>g) rfl
 exact Eo H g3 A {s3 with toks:=s3.toks + 1} ρ3 _ _ _ _ _ (P3.grow (fun _ _ g=>g) rfl) ⟨by rw[show ρ3 .vers=ρ2 .vers from k3.rho _ d1],k3.dom _ d1⟩ ⟨t2,rfl⟩ ⟨s3.toks,by rw[show Z.C.ν z=_ from Sp H.X.v0 e]⟩ fun s4 P4 k4=>q.nx P4 (k2.trans (((show Ext Z.C σ2 ρ2 s2 σ2 ρ2 {s2 with toks:=s2.toks + 1} from .grow (fun _ _ g=>g) rfl).trans k3).trans (kt2.trans k4))).l) h2 ev) h1
end
set_option genInjectivity false
section
variable{Z:Zx}
theorem Zpf(H:ZOk Z){o e:Clo}{y x:Expr}{a:Nat}{nn:Str}{ap p:Pos}(ho:S2 Z o y)(he:S2 Z e x)(hn:Zs (Z.t.an a) nn=true)(hcc:(!Zq x)=true):SSt Z (Aw Z.C.T o a e) (.Assign [.Attribute y nn ap] x p):=fun lo σ fl lo' σ' ev=>Yk ev fun v σ1 h1 ev=>Zax ev fun n σ2 h2 ev=>Td ev fun c vs h3 ev=>Za ev fun pp h4 ev=>Za ev fun vs' h5 ev=>B0 ev fun σ3 h6 A s ρ Q E P q=>by
 have o1:Z.C.nm a=nn:=by rw[← strB_iff.mp hn,H.N.an]
 refine plainObj_wpAny_Assign_Attribute (two he.s ho.s h1 h2 P fun ρ1 s1 u w P1 k1 v1 v2=>v2.loc_e fun hdm=> ?_) (V3 he.p hcc _ _);have pz:=Rb h4;rw[Nat.sub_zero] at pz;have hc:Z.C.T.attrs c≠[]:=fun z=>by rw[z] at pz;exact Mine.nn pz.2.1
 have K:=H.X.cls c (H.X.att c hc);have ma:a∈Z.C.T.attrs c:=List.mem_of_getElem? pz.2.1;obtain⟨i1,es,ep,i2,i3⟩:=P1.r.rep n _ h3;have nr:=i3.noRef;have I:InstAt s1.heap (ρ1 (.id n)) ⟨.ref (Z.C.cl c),some (ρ1 (.idd n)),.plain,#[]⟩ (Z.C.cl c) (some (dictOf es.toList ep)):=⟨i1,rfl,rfl,i2⟩;have ht:takerIn Z.C.K (Z.C.cl c) nn=some none:=by
  unfold takerIn;rw[show findIn Z.C.K (.ref (Z.C.cl c)) nn=some none from o1 ▸ K.no a ma];rfl
 have inj:ρ1 (.id n)≠ρ1 (.idd n):=fun z=>nomatch P1.r.inj (.id n) (.idd n) ⟨_,h3,nofun⟩ ⟨_,_,h3⟩ z;refine set_plain P1.r.fr I K.sa (Yik (s:={s1 with toks:=s1.toks + 1}) P1.r.fr I rfl K.over ht K.own rfl nr.1 (by rw[nr.2.1];exact Nat.le_trans nr.2.2 (Nat.le_trans K.few (by decide))) ?_);have up:(s1.heap.update (ρ1 (.idd n)) (Obj.putName nn (PyData.keyHash Z.C.wld.params nn) (.str nn (s1.toks + 1)) u)).get? (ρ1 (.idd n))=some (dictOf (putL nn (PyData.keyHash Z.C.wld.params nn) (.str nn (s1.toks + 1)) u es.toList) (putN nn es.toList ep)):=by
  rw[← putName_dict];exact Heap.get?_update_self _ i2 (by rw[putName_dict];rfl)
 have z:=P1.r.put h3 nofun h6 (h':=s1.heap.update (ρ1 (.idd n)) (Obj.putName nn (PyData.keyHash Z.C.wld.params nn) (.str nn (s1.toks + 1)) u))
  (fun b x hb hb2 g=>by rw[Heap.get?_update_other _ _ (Ne.symm (hb2 ⟨_,_,rfl⟩))];exact g) (fun _=>⟨c,vs,rfl⟩) (fun st hd=>by
    refine⟨?_,_,_,up,Atts.put (hsh:=PyData.keyHash Z.C.wld.params nn) (tk:=s1.toks + 1) (v1.stays st hd fun _ _=>rfl) o1 (i3.stays st hd fun _ _=>rfl) pz.2.1 (fun i b hi hb z=>pz.2.2 i hi (K.inj b (List.mem_of_getElem? hb) a ma (z.trans o1.symm) ▸ hb)) h5⟩
    rw[Heap.get?_update_other _ _ (Ne.symm inj)];exact i1)
 have kx:Ext Z.C σ2 ρ1 s1 σ3 ρ1 {s1 with heap:=s1.heap.update (ρ1 (.idd n)) (Obj.putName nn (PyData.keyHash Z.C.wld.params nn) (.str nn (s1.toks + 1)) u),toks:=s1.toks + 1 + 1}:=⟨z.2.1,z.2.2.1,fun _ _=>rfl,z.2.2.2,rfl⟩;exact q.nx (P1.to z.1 kx) (k1.trans kx).l
structure Wk(I:Addr)(fp:List Addr)(S':Nat→Heap→Prop):Prop where
 frame:∀i h h',S' i h→(∀b∈fp,∀o,h.get? b=some o→h'.get? b=some o)→S' i h'
 noseq:∀i h,S' i h→∃o,h.get? I=some o∧∀vs n,o.data≠ .seq vs n
 inn:I∈fp
structure Inv(Z:Zx)(A:Around)(I:Addr)(fp:List Addr)(S':Nat→Heap→Prop)(σ1:St)(ρ1:Rho)(s1:Shared)(σ:St)(ρ:Rho)(i:Nat)(lo:Zd)(s:Shared):Prop where
 st:S' i s.heap
 P:Pre Z lo A s σ ρ
 k:ExtL Z.C Z.env.locals σ1 ρ1 s1 σ ρ s
 li:∀l,Z2 Z.C σ l→ρ l≠I
 fpk:∀b∈fp,b≠Z.env.locals∧¬Own Z.C σ ρ b∧∃o,s.heap.get? b=some o
section
variable{A:Around}{I:Addr}{fp:List Addr}{S':Nat→Heap→Prop}{σ1 σ σ':St}{ρ1 ρ ρ':Rho}{s1 s s':Shared}{i:Nat}{lo lo':Zd}
theorem Inv.ext(W:Wk I fp S')(v:Inv Z A I fp S' σ1 ρ1 s1 σ ρ i lo s)(k:ExtL Z.C Z.env.locals σ ρ s σ' ρ' s')(P:Pre Z lo' A s' σ' ρ'):Inv Z A I fp S' σ1 ρ1 s1 σ' ρ' i lo' s':=by
 have kf:∀b∈fp,∀o,s.heap.get? b=some o→s'.heap.get? b=some o:=fun b hb o g=>k.get b o (v.fpk b hb).1 (v.fpk b hb).2.1 g;have z:=v.fpk I W.inn;exact⟨W.frame _ _ _ v.st kf,P,v.k.trans k,z.2.2.elim fun o h3=>Vm k.base v.P.F.old k.rho v.li (k.own I o z.1 z.2.1 h3),fun b hb=>have y:=v.fpk b hb;⟨y.1,y.2.2.elim fun o h3=>k.own b o y.1 y.2.1 h3,y.2.2.elim fun o h3=>⟨o,kf b hb o h3⟩⟩⟩
theorem Inv.move(W:Wk I fp S')(v:Inv Z A I fp S' σ1 ρ1 s1 σ ρ i lo s)(hK:Z.C.K.lookup I=none)(hn:s1.heap.get? I=none){h':Heap}{tk:Nat}(k:∀b o,b ∉ [I]→s.heap.get? b=some o→h'.get? b=some o):
 Pre Z lo A {s with heap:=h',toks:=tk} σ ρ∧ExtL Z.C Z.env.locals σ1 ρ1 s1 σ ρ {s with heap:=h',toks:=tk}∧Z4 s.heap (Own Z.C σ ρ) h' (Own Z.C σ ρ)∧(S' (i + 1) h'→Inv Z A I fp S' σ1 ρ1 s1 σ ρ (i + 1) lo {s with heap:=h',toks:=tk}):=by
 obtain⟨oI,g1,g2⟩:=W.noseq _ _ v.st;have kI:∀b x,b≠I→s.heap.get? b=some x→h'.get? b=some x:=fun b x hb g=>k b x (fun m=>hb (List.mem_singleton.mp m)) g;have ns:∀o vs n,s.heap.get? I=some o→o.data≠ .seq vs n:=fun o vs n g e=>g2 vs n (sj (g.symm.trans g1) ▸ e);have st:Z4 s.heap (Own Z.C σ ρ) h' (Own Z.C σ ρ):=⟨fun b o vs n _ g e=>kI b o (Y4 ns g e) g,fun _ _ _ _ n _ _=>n⟩;have hIL:I≠Z.env.locals:=(v.fpk I W.inn).1;have F:=v.P.F;have P':Pre Z lo A {s with heap:=h',toks:=tk} σ ρ:=⟨v.P.rm,v.P.r.loc v.li hK ns kI,F.at_.elim fun m a=>⟨m,a.1.elim fun oL a=>a.elim fun es a=>a.elim fun ep a=>⟨oL,es,ep,kI _ _ (Ne.symm hIL) a.1,a.2⟩,fun j u e=>(a.2 j u e).elim fun n e=>e.elim fun kk e=>e.elim fun x e=>⟨n,kk,x,e.1,e.2.1,e.2.2.staysQ st (fun _ d=>d) (fun _ _=>rfl)⟩⟩,F.own,F.liv,F.far,F.old⟩;have k':ExtL Z.C Z.env.locals σ1 ρ1 s1 σ ρ {s with heap:=h',toks:=tk}:=⟨fun b o hb nb g=>kI b o (fun z=>by rw[z,hn] at g;exact nn g) (v.k.get b o hb nb g),v.k.own,v.k.dom,v.k.rho,v.k.base,v.k.rest⟩;refine⟨P',k',st,fun hs=>⟨hs,P',k',v.li,fun b hb=>have y:=v.fpk b hb;⟨y.1,y.2.1,?_⟩⟩⟩;by_cases z:b=I
 ·exact(W.noseq _ _ hs).elim fun o' g=>⟨o',z ▸ g.1⟩
 ·exact y.2.2.elim fun o h3=>⟨o,kI b o z h3⟩
theorem Inv.start(P:Pre Z lo A s1 σ1 ρ1){h:Heap}(hst:S' 0 h)(keep:∀b o,s1.heap.get? b=some o→h.get? b=some o)(hn:s1.heap.get? I=none)(W:Wk I fp S')(hf:∀b∈fp,b≠I→¬Own Z.C σ1 ρ1 b∧∃o vs n,s1.heap.get? b=some o∧o.data= .seq vs n):Inv Z A I fp S' σ1 ρ1 s1 σ1 ρ1 0 lo {s1 with heap:=h}:=by
 have ke:Ext Z.C σ1 ρ1 s1 σ1 ρ1 {s1 with heap:=h}:= .grow keep rfl;refine⟨hst,P.grow (s':={s1 with heap:=h}) keep rfl,ke.l,fun l dl e=>(P.r.there dl).elim fun x hx=>by rw[e,hn] at hx;exact nn hx,fun b hb=>P.F.ns.elim fun m ns=> ?_⟩;by_cases z:b=I
 ·rw[z]
  exact⟨fun e=>ns.elim fun o a=>a.elim fun _ a=>a.elim fun _ a=>by rw[← e,hn] at a;exact nn a.1,P.r.fresh hn,(W.noseq _ _ hst).elim fun o g=>⟨o,g.1⟩⟩
 ·have y:=hf b hb z
  exact y.2.elim fun o y2=>y2.elim fun vs y2=>y2.elim fun n y2=>⟨Y4 (Ns.noSeq ns) y2.1 y2.2,y.1,o,keep _ _ y2.1⟩
end
def KR(Z:Zx)(A:Around)(s:Shared)(σ:St)(ρ:Rho)(fl:Fl)(lo':Zd)(σ':St)(Rr:Result→Shared→Prop):Prop:=KFl Z A s σ ρ fl lo' σ' fun f s'=>Rr (.ok f) s'
theorem Qx{tg:Expr}{bd:V→Zd→Option Zd}{f:Ye}{body:List Stmt}(hbd:Xx Z tg bd)(hb:SSs Z f body){A:Around}{I:Addr}{fp:List Addr}{S':Nat→Heap→Prop}{σ1 σ σ':St}{ρ1 ρ:Rho}{s1 s:Shared}{i:Nat}{lo lo1 lo':Zd}{fl:Fl}{v:V}{x:Value}{g:Zd→St→Wz}(W:Wk I fp S')
 (inv:Inv Z A I fp S' σ1 ρ1 s1 σ ρ i lo s) (hb1:bd v lo=some lo1) (vx:VR Z.C σ ρ s.heap v x) (ev:rs (f lo1 σ) g=some (fl,lo',σ')) {K:Flow→Shared→Prop} {E:Value→Shared→Prop} (k1:∀σ2 ρ2 lo2 s2,Inv Z A I fp S' σ1 ρ1 s1 σ2 ρ2 i lo2 s2→g lo2 σ2=some (fl,lo',σ')→K .next s2)
 (k2:KFl Z A s1 σ1 ρ1 fl lo' σ' fun fw s2=>(∀w,fl= .ret w→K fw s2)):Z.wp A (assign tg Z.env x) (fun _ s2=>Z.wp A (execs body Z.env) K E s2) E s:=
 hbd v lo lo1 hb1 A s σ ρ x _ _ inv.P vx fun s3 P3 k3=>by
  have v3:=inv.ext W k3 P3;refine Zqy ev (fun lo2 σ2 h ev=>hb lo1 σ _ lo2 σ2 h A s3 ρ _ _ P3 fun ρ4 s4 fw P4 k4 fr=> ?_) fun w lo2 σ2 h e=>hb lo1 σ _ lo2 σ2 h A s3 ρ _ _ P3 fun ρ4 s4 fw P4 k4 fr=> ?_
  ·rw[show fw= .next from fr]
   exact k1 σ2 ρ4 lo2 s4 (v3.ext W k4 P4) ev
  ·cases e
   exact k2 ρ4 s4 fw P4 (v3.ext W k4 P4).k fr w rfl
theorem Ei{A:Around}{σ1 σ':St}{ρ1:Rho}{s1:Shared}{fl:Fl}{lo':Zd}{Rr:Result→Shared→Prop}{K:Flow→Shared→Prop}(q:KR Z A s1 σ1 ρ1 fl lo' σ' Rr)(e:∀x s,Rr (.ok (.ret x)) s→K (.ret x) s):KFl Z A s1 σ1 ρ1 fl lo' σ' fun fw s2=>(∀w,fl= .ret w→K fw s2):=fun ρ' s' f P k fr w z=>by
 cases z;refine fr.elim fun x fr=> ?_;have:=q ρ' s' f P k ⟨x,fr⟩;rw[fr.1] at this ⊢;exact e x s' this
theorem Qe{tg:Expr}{bd:V→Zd→Option Zd}{f:Ye}{body:List Stmt}(hbd:Xx Z tg bd)(hb:SSs Z f body){σ1:St}{ρ1:Rho}{s1:Shared}{ds:List D}{I:Addr}{h:Heap}{fp:List Addr}{P':Nat→Value→Prop}{S':Nat→Heap→Prop}{A:Around}
 (S:SrcAt Z.C A σ1 ρ1 (fun a=>¬Own Z.C σ1 ρ1 a) s1.heap ds I h fp P' S') {lo lo':Zd} {fl:Fl} {σ':St} (ev:W9 f bd ds lo σ1=some (fl,lo',σ')) (P:Pre Z lo A s1 σ1 ρ1) (Rr:Result→Shared→Prop) (q:KR Z A s1 σ1 ρ1 fl lo' σ' Rr):
 codeAny (model Z.C.prog Z.C.wld) A (.forLoop tg (.ref I) body [] Z.env) Rr {s1 with heap:=h}:=by
 have W:Wk I fp S':=⟨S.walks.frame,S.noseq,S.inn⟩;have hK:=Yb P.r S.new;refine codeAny_forLoop_any (fun n s=>∃σ ρ lo i,Inv Z A I fp S' σ1 ρ1 s1 σ ρ i lo s∧i≤ds.length∧n=ds.length - i + 1∧W9 f bd (ds.drop i) lo σ=some (fl,lo',σ')) (fun n s hI=> ?_) (ds.length + 1) ⟨σ1,ρ1,lo,0,Inv.start P S.st S.keep S.new W S.fpo,Nat.zero_le _,rfl,ev⟩;obtain⟨σ,ρ,lo1,i,v,hi,rfl,hev⟩:=hI;by_cases hlt:i < ds.length
 ·refine S.walks.item i s _ _ hlt v.st fun u h' tk hP hst kk=> ?_
  have mv:=v.move W hK S.new (tk:=tk) kk;dsimp only;refine S.go (i + 1) _ tg u _ _ hst ?_;refine(S.items i u hP).elim fun dd hd=> ?_;have hdrop:ds.drop i=dd::ds.drop (i + 1):=by
   rw[List.drop_eq_getElem_cons hlt];rw[List.getElem?_eq_getElem hlt] at hd;rw[sj hd.1]
  rw[hdrop] at hev;refine Za hev fun lo2 hb2 hev=>Qx hbd hb W (mv.2.2.2 hst) hb2 (P.F.ns.elim fun m ns=>RdD.staysQ (mv.2.1.q (Ns.noSeq ns)) hd.2) hev (fun σ2 ρ2 lo2 s2 inv e=>⟨ds.length - (i + 1) + 1,?_,σ2,ρ2,lo2,i + 1,inv,hlt,rfl,e⟩) (Ei q fun _ _ z=>z);rw[Nat.sub_add_eq,Nat.sub_add_cancel (Nat.sub_pos_of_lt hlt)];exact Nat.lt_succ_self _
 ·have e:i=ds.length:=Nat.le_antisymm hi (Nat.not_lt.mp hlt)
  rw[e,List.drop_length] at hev;refine S.walks.done s _ _ (e ▸ v.st) fun h' tk kk=> ?_;have mv:=v.move W hK S.new (tk:=tk) kk;exact wpAny_execs_nil (Xz (M:=fun fl lo' σ'=>KR Z A s1 σ1 ρ1 fl lo' σ' Rr→_) hev (fun q=>q.nx (s':={s with heap:=h',toks:=tk}) mv.1 mv.2.1) q)
theorem O3{C:Cx}{σ:St}{ρ:Rho}{h:Heap}{n i:Nat}{r0:Option V}(r:R C σ ρ h)(e:Ho C.T σ n i=some r0):∃items,IsLx h (ρ (.id n)) items∧(∀v,r0=some v→∃x,items[i]? =some x∧VR C σ ρ h v x)∧(r0=none→items[i]? =none):=Za e fun o h0 e=>by
 have T:∀{items:Array Value} {vs:List V},IsLx h (ρ (.id n)) items→VRs C σ ρ h vs items.toList→vs[i]? =r0→∃items,IsLx h (ρ (.id n)) items∧(∀v,r0=some v→∃x,items[i]? =some x∧VR C σ ρ h v x)∧(r0=none→items[i]? =none):=fun{items vs} l rd e=>
  ⟨items,l,fun v z=>(rd.get (e.trans z)).elim fun x hx=>⟨x,(Array.getElem?_toList).symm.trans hx.1,hx.2⟩,fun z=>(Array.getElem?_toList).symm.trans (List.getElem?_eq_none (by rw[rd.len];exact List.getElem?_eq_none_iff.mp (e.trans z)))⟩
 have rep:=r.rep n _ h0;cases o with
 |rev rr=>exact rep.elim fun items l=>T l.1 l.2 (sj e)
 |list rr=>exact rep.elim fun items l=>T l.1 l.2 (sj e)
 |dl rr=>
  refine rep.elim fun items l=>⟨items,l.1,fun v z=> ?_,fun z=> ?_⟩
  ·refine Mo ((sj e).trans z) fun dd e1 e2=>(l.2.get (K6 e1)).elim fun x hx=>⟨x,(Array.getElem?_toList).symm.trans hx.1,e2 ▸ hx.2⟩
  ·refine(Array.getElem?_toList).symm.trans (List.getElem?_eq_none ?_)
   rw[l.2.len,Y3];exact List.getElem?_eq_none_iff.mp (Option.map_eq_none_iff.mp ((sj e).trans z))
 |_=>exact nn e
theorem K2{tg:Expr}{bd:V→Zd→Option Zd}{f:Ye}{body:List Stmt}(hbd:Xx Z tg bd)(hb:SSs Z f body){σ1:St}{ρ1:Rho}{s1:Shared}{n:Nat}{A:Around}
 {lo lo':Zd} {fl:Fl} {σ':St} {k0:Nat} (ev:Hv Z.C.T f bd n k0 0 lo σ1=some (fl,lo',σ')) (P:Pre Z lo A s1 σ1 ρ1) (hdm:Dom σ1 (.id n)) (Rr:Result→Shared→Prop) (q:KR Z A s1 σ1 ρ1 fl lo' σ' Rr):
 codeAny (model Z.C.prog Z.C.wld) A (.forLoop tg (.ref s1.heap.objs.size) body [] Z.env) Rr {s1 with heap:=s1.heap.push {cls:= .type "list_iterator",data:= .fields #[.ref (ρ1 (.id n)),.int 0 0]}}:=by
 have W:Wk s1.heap.objs.size [s1.heap.objs.size] (fun i h=>h.IsListIter s1.heap.objs.size (ρ1 (.id n)) i):=
  ⟨fun i h h' st kk=>st.at fun o e=>kk _ (.head _) o e,fun i h st=>st.elim fun o st=>⟨o,st.1,Uv st.2.2⟩,.head _⟩
 have hnew:=Zv s1.heap;have hK:=Yb P.r hnew
 refine codeAny_forLoop_any (fun m s=>∃σ ρ lo i,Inv Z A s1.heap.objs.size [s1.heap.objs.size] (fun i h=>h.IsListIter s1.heap.objs.size (ρ1 (.id n)) i) σ1 ρ1 s1 σ ρ i lo s∧Hv Z.C.T f bd n m i lo σ=some (fl,lo',σ')) (fun m s hI=> ?_) k0
  ⟨σ1,ρ1,lo,0,Inv.start P ⟨_,Heap.get?_push_size _ rfl,rfl,rfl⟩ Vv hnew W (fun b hb ne=>(ne (List.mem_singleton.mp hb)).elim),ev⟩
 obtain⟨σ,ρ,lo1,i,v,hev⟩:=hI;cases m with
 |zero=>exact nn hev
 |succ m=>
  refine Za (x:=Ho Z.C.T σ n i) hev fun o hi hev=>(O3 v.P.r hi).elim fun items it=> ?_;have l:IsLx s.heap (ρ1 (.id n)) items:=(show ρ (.id n)=ρ1 (.id n) from v.k.rho _ hdm) ▸ it.1;cases o with
  |none=>
   refine wpAny_pyNext_list_end P.rm.1 v.st l.list (it.2.2 rfl) fun h' he=> ?_;have mv:=v.move W hK hnew (tk:=s.toks) (h':=h') (fun b o hb g=>he b o (fun z=>hb (List.mem_singleton.mpr z)) g);exact wpAny_execs_nil (Xz (M:=fun fl lo' σ'=>KR Z A s1 σ1 ρ1 fl lo' σ' Rr→_) hev (fun q=>q.nx (s':={s with heap:=h'}) mv.1 mv.2.1) q)
  |some u=>
   refine(it.2.1 u rfl).elim fun x hx=>wpAny_pyNext_list_item v.st l.list hx.1 fun h' hit hs=> ?_;have mv:=v.move W hK hnew (tk:=s.toks) (h':=h') (fun b o hb g=>(hs.2 b (fun z=>hb (List.mem_singleton.mpr z))).trans g);dsimp only;refine hit.elim fun oi j=>Wg (s:={s with heap:=h'}) j.1 j.2.1 j.2.2 (by decide) ?_;exact Za hev fun lo2 hb2 hev=>Qx (s:={s with heap:=h'}) hbd hb W (mv.2.2.2 hit) hb2 (hx.2.staysQ mv.2.2.1 (fun _ d=>d) (fun _ _=>rfl)) hev (fun σ2 ρ2 lo2 s2 inv e=>⟨m,Nat.lt_succ_self _,σ2,ρ2,lo2,i + 1,inv,e⟩) (Ei q fun _ _ z=>z)
theorem SrcAt.mono{C:Cx}{A:Around}{σ:St}{ρ:Rho}{F F':Addr→Prop}{h0:Heap}{ds:List D}{I:Addr}{h:Heap}{fp:List Addr}{P:Nat→Value→Prop}{S':Nat→Heap→Prop}(S:SrcAt C A σ ρ F h0 ds I h fp P S')(hF:∀b,F b→F' b):SrcAt C A σ ρ F' h0 ds I h fp P S':=
 {S with fpo:=fun b hb hne=>have z:=S.fpo b hb hne;⟨hF _ z.1,z.2⟩}
theorem Uh(H:ZOk Z){tg iter:Expr}{bd:V→Zd→Option Zd}{f:Ye}{k:Clo}{body:List Stmt}{p:Pos}(hbd:Xx Z tg bd)(hb:SSs Z f body)(hi:S2 Z k iter){lo lo':Zd}{σ σ1 σ':St}{fl:Fl}{d:D}{xs:List D}(h1:k lo σ=some (.dat d,σ1))(h2:O4 σ1 (.dat d)=some xs)(ev:W9 f bd xs lo σ1=some (fl,lo',σ')):WS Z (.For tg iter body [] p) lo σ fl lo' σ':=fun A s ρ Q E P q=>
 wpAny_For (hi.s lo σ _ σ1 h1 A s ρ _ _ P fun ρ1 s1 x P1 k1 v1=>Ic (ds:=xs) P.rm.1 P1.r h2 v1 _ _ fun I h fp P' St S=>Qe hbd hb (S.mono fun b hF=>hF ⟨d,rfl⟩) ev P1 _ (q.after k1.l)) (Yz hi.p)
theorem D9(H:ZOk Z){tg iter:Expr}{bd:V→Zd→Option Zd}{f:Ye}{a:Clo}{body:List Stmt}{p:Pos}(hbd:Xx Z tg bd)(hb:SSs Z f body)(ha:RgE Z a iter)(pl:Z1 iter=true){lo lo':Zd}{σ σ1 σ':St}{fl:Fl}{n:Int}(h1:a lo σ=some (.dat (.int n),σ1))(h2:leN n 100000=true)(ev:W9 f bd (Xc n) lo σ1=some (fl,lo',σ')):WS Z (.For tg iter body [] p) lo σ fl lo' σ':=fun A s ρ Q E P q=>
 wpAny_For (ha lo σ n σ1 h1 h2 A s ρ _ _ P fun ρ1 s1 b t1 t2 t3 P1 k1 hr=>Qs (F:=fun a=>¬Own Z.C σ1 ρ1 a) (σ:=σ1) (ρ:=ρ1) H.X P.rm.1 h2 hr _ _ fun I h fp P' St S=>Qe hbd hb S ev P1 _ (q.after k1.l)) (Yz pl)
theorem D8(H:ZOk Z){tg iter:Expr}{bd:V→Zd→Option Zd}{f:Ye}{k:Clo}{body:List Stmt}{p:Pos}(hbd:Xx Z tg bd)(hb:SSs Z f body)(hi:S2 Z k iter){lo lo':Zd}{σ σ1 σ':St}{fl:Fl}{n:Nat}(h1:k lo σ=some (.loc (.id n),σ1))(ev:Hv Z.C.T f bd n 200 0 lo σ1=some (fl,lo',σ')):WS Z (.For tg iter body [] p) lo σ fl lo' σ':=fun A s ρ Q E P q=>
 wpAny_For (hi.s lo σ _ σ1 h1 A s ρ _ _ P fun ρ1 s1 x P1 k1 v1=>v1.loc_e fun hdm=>Za (x:=Ho Z.C.T σ1 n 0) ev fun o hi _=>(O3 P1.r hi).elim fun items it=>wpAny_pyIter_list it.1.list (K2 hbd hb ev P1 hdm _ (q.after k1.l))) (Yz hi.p)
theorem Zp9(H:ZOk Z){tg iter:Expr}{j:Nat}{f:Ye}{k:Clo}{body:List Stmt}{p:Pos}(hbd:Xx Z tg (Yv j))(hb:SSs Z f body)(hi:S2 Z k iter):SSt Z (Ya7 Z.C.T j k f) (.For tg iter body [] p):=fun lo σ fl lo' σ' ev=>Yk ev fun v σ1 h1 ev=>by
 cases v with
 |dat d=>
  cases d with
  |list xs=>exact Uh H hbd hb hi h1 rfl ev
  |tuple xs=>exact Uh H hbd hb hi h1 rfl ev
  |_=>exact nn ev
 |loc l=>exact Zb3 (M:=fun l=>k lo σ=some (.loc l,σ1)→WS Z (.For tg iter body [] p) lo σ fl lo' σ') ev (fun n ev h1=>D8 H hbd hb hi h1 ev) h1
theorem Zpa(H:ZOk Z){tg iter:Expr}{j:Nat}{f:Ye}{a:Clo}{body:List Stmt}{p:Pos}(hbd:Xx Z tg (Yv j))(hb:SSs Z f body)(hr:RgE Z a iter)(pl:Z1 iter=true):SSt Z (Ya8 j a f) (.For tg iter body [] p):=fun lo σ fl lo' σ' ev=>Fa ev fun n σ1 h1 ev=>Zl ev fun h2 ev=>D9 H hbd hb hr pl h1 h2 ev
theorem Zp7(H:ZOk Z){tg iter:Expr}{j:Nat}{f:Ye}{k:KE}{body:List Stmt}{p:Pos}(hbd:Xx Z tg (Yv j))(hb:SSs Z f body)(hi:S3 Z k iter):SSt Z (Gs Z.C.T j k f) (.For tg iter body [] p):=
 have pl:=hi.s.p
 hi.use (M:=fun k=>SSt Z (Gs Z.C.T j k f) (.For tg iter body [] p)) (fun c h=>Zp9 H hbd hb h) fun c a h hr=>Zpa H hbd hb hr pl
theorem Zp8(H:ZOk Z){tg iter:Expr}{j k:Nat}{f:Ye}{e:Clo}{body:List Stmt}{p:Pos}(hbd:Xx Z tg (Lg j k))(hb:SSs Z f body)(hi:S2 Z e iter):SSt Z (At j k e f) (.For tg iter body [] p):=fun lo σ fl lo' σ' ev=>Zaw ev fun d σ1 h1 ev=>by
 cases d with
 |list xs=>exact Uh H hbd hb hi h1 rfl ev
 |tuple xs=>exact Uh H hbd hb hi h1 rfl ev
 |_=>exact nn ev
end
set_option genInjectivity true
section
variable{C:Cx}{σ:St}{ρ:Rho}{w:Wd}{D:Addr}
theorem Ij{lc l:Lc}(h:l≠lc):upd ρ lc D l=ρ l:=if_neg h
theorem Qy{lc:Lc}:upd ρ lc D lc=D:=if_pos rfl
section
variable{β:Type}{l:List (Int×β)}{v:β}{n m:Int}{ν:Int→Int}{items:Array Value}{f:Int→Lc}
theorem K5(l2:(items.size:Int)=ν n)(l4:∀k fs,Zc l k=some fs→1≤ν k∧items[(ν k).toNat]? =some (.ref (ρ (f k)))){j:Int}(h:(Zc l j).isSome=true):ν j < ν n:=Ro h fun fs e=>by
 have z:=l4 j fs e;have:=(Array.getElem?_eq_some_iff.mp z.2).1;omega
theorem Na(lt:∀j,(Zc l j).isSome=true→ν j < ν n):Zc l n=none:=by
 cases q:Zc l n with
 |none=>rfl
 |some v=>exact(Int.lt_irrefl _ (lt n (congrArg Option.isSome q))).elim
theorem Wh{j:Int}(h:(Zc ((n,v)::l) j).isSome=true):j=n∨(j≠n∧(Zc l j).isSome=true):=by
 rw[getC_cons] at h;by_cases z:j=n
 ·exact .inl z
 ·rw[if_neg z] at h;exact .inr ⟨z,h⟩
theorem Jc(lt:∀j,(Zc l j).isSome=true→ν j < ν n)(d:∀k k',(Zc l k).isSome→(Zc l k').isSome→ν k=ν k'→k=k'):∀k k',(Zc ((n,v)::l) k).isSome→(Zc ((n,v)::l) k').isSome→ν k=ν k'→k=k':=fun a b x y e=>
 (Wh x).elim (fun z1=>(Wh y).elim (fun z2=>z1.trans z2.symm) fun z2=>absurd (lt b z2.2) (by rw[← e,z1];exact Int.lt_irrefl _)) fun z1=>(Wh y).elim (fun z2=>absurd (lt a z1.2) (by rw[e,z2];exact Int.lt_irrefl _)) fun z2=>d a b z1.2 z2.2 e
theorem Pt{j:Int}{u:β}(q:Zc ((n,v)::l) j=some u):(j=n∧u=v)∨(j≠n∧Zc l j=some u):=by
 rw[getC_cons] at q;by_cases e:j=n
 ·rw[if_pos e] at q;exact .inl ⟨e,(sj q).symm⟩
 ·rw[if_neg e] at q;exact .inr ⟨e,q⟩
theorem Qf(hf:∀a b,f a=f b→a=b)(l2:(items.size:Int)=ν n)(h1:1≤ν n)(l4:∀k fs,Zc l k=some fs→1≤ν k∧items[(ν k).toNat]? =some (.ref (ρ (f k)))):∀k fs,Zc ((n,v)::l) k=some fs→1≤ν k∧(items.push (.ref D))[(ν k).toNat]? =some (.ref (upd ρ (f n) D (f k))):=fun j fs q=>(Pt q).elim (fun z=>by
 rw[z.1,Qy,← l2]
 exact⟨l2 ▸ h1,by simp⟩) fun z=>by
 have y:=l4 j fs z.2;rw[Ij fun e=>z.1 (hf _ _ e),Array.getElem?_push,if_neg (Nat.ne_of_lt (Array.getElem?_eq_some_iff.mp y.2).1)];exact y
theorem Re{j:Int}(h:(Zc l j).isSome=true):(Zc ((n,v)::l) j).isSome=true:=by
 rw[getC_cons];split
 ·rfl
 ·exact h
end
theorem Fp{p:Wd→Prop}(hw:σ.w=some w)(d:Tz σ p):p w:=d.elim fun u d=>sj (hw.symm.trans d.1) ▸ d.2
theorem Nc{β:Type}{o:Option β}(h:o=none)(d:o.isSome=true){P:Prop}:P:=by rw[h] at d;exact nf d
theorem ν_succ{mg mb:Str→Option Value}(X:Vr C mg mb){n m:Int}(h:Tt n 1=some m):C.ν m=C.ν n + 1:=(Sp X.v0 h).trans (by rw[show vC C.val 1=1 from Zo X.v0 rfl])
theorem Qm{items:Array Value}{y:Value}{n m:Int}(h:C.ν m=C.ν n + 1)(l2:(items.size:Int)=C.ν n):((items.push y).size:Int)=C.ν m:=by rw[Array.size_push,h,← l2];rfl
theorem Ii{h h1:Heap}{L:Addr}{f:Obj→Obj}(g:∀b o,b≠D→h.get? b=some o→h1.get? b=some o):∀b x,b≠L→b≠D→h.get? b=some x→(h1.update L f).get? b=some x:=fun b x hb hd q=>by rw[Heap.get?_update_other _ _ (Ne.symm hb)];exact g b x hd q
variable{mg mb:Str→Option Value}(X:Vr C mg mb)
include X
theorem Iq{n:Nat}(hz:w.bnd≤100000)(h:n≤w.bnd + C.slack):n≤sizeLine:=by
 have:=X.slack;rw[sizeLine_eq];omega
theorem R.newArr{s:Shared}{h1:Heap}{ys:Array Value}{xs:List Int}{m:Int}{tk:Nat}(r:R C σ ρ s.heap)(hw:σ.w=some w)(hz:w.bnd≤100000)(ha:Tt w.narr 1=some m)(hD:s.heap.get? D=none)
 (g:∀b o,s.heap.get? b=some o→h1.get? b=some o) (hl:IsLx h1 D ys) (hn:Nums C.ν xs ys.toList):∃items n,IsL h1 (ρ .arrs) items n∧items.size≤sizeLine∧
   R C {σ with w:=some {w with arr:=(w.narr,xs)::w.arr,narr:=m,bnd:=w.bnd + 1}} (upd ρ (.arr w.narr) D) (h1.update (ρ .arrs) (Obj.mapSeq fun zs=>zs.push (.ref D)))∧
   Ext C σ ρ s {σ with w:=some {w with arr:=(w.narr,xs)::w.arr,narr:=m,bnd:=w.bnd + 1}} (upd ρ (.arr w.narr) D) {s with heap:=h1.update (ρ .arrs) (Obj.mapSeq fun zs=>zs.push (.ref D)),toks:=tk}:=by
 have W:=r.rw w hw;refine W.arrs_e fun items la l2 l3 l4=>la.elim fun n la=> ?_;have lt:∀j,(Zc w.arr j).isSome=true→C.ν j < C.ν w.narr:=fun j=>K5 (f:= .arr) l2 l4;have nD:∀{b x},s.heap.get? b=some x→b≠D:=fun q z=>by rw[z,hD] at q;exact nn q
 have hne:=nD la;have e1:∀l,l≠ .arr w.narr→upd ρ (.arr w.narr) D l=ρ l:=fun l=>Ij;have hdr:∀l,Dom σ l→upd ρ (.arr w.narr) D l=ρ l:=fun l d=>e1 l fun z=>by
  rw[z] at d;exact Nc (Na lt) (Fp hw d)
 have dm:=I8 hw (w':={w with arr:=(w.narr,xs)::w.arr,narr:=m,bnd:=w.bnd + 1}) (fun k z=>z) fun k z=>Re (l:=w.arr) z
 have z:=r.wld (w':={w with arr:=(w.narr,xs)::w.arr,narr:=m,bnd:=w.bnd + 1}) (lcN:= .arr w.narr) (lcL:= .arrs) (D:=D) (h':=h1.update (ρ .arrs) (Obj.mapSeq fun zs=>zs.push (.ref D))) hw rfl (fun l d z=>(r.there d).elim fun x hx=>nD hx z) (Yb r hD) (fun o _ _ z=>by rw[hD] at z;exact nn z) hdr (fun n=>e1 _ nofun) ⟨w,hw,trivial⟩ ⟨nofun,nofun⟩
  (fun l d=>(Hw (w':={w with arr:=(w.narr,xs)::w.arr,narr:=m,bnd:=w.bnd + 1}) (lcN:= .arr w.narr) hw (fun k z=> .inl z) (fun k z=>(Wh (l:=w.arr) z).symm.imp (fun z=>z.2) fun z=>congrArg Lc.arr z) l d).imp id fun z=>⟨z,z ▸ Qy⟩) dm (Ii fun b o _=>g b o)
  fun st un=>W.chg (lcL:= .arrs) hw st hdr (fun n=>e1 _ nofun) un nofun rfl rfl rfl (Nat.le_succ _) (Nat.le_trans (Nat.succ_le_succ hz) (by decide)) (.inl ⟨nofun,rfl,fun k z=>z⟩)
   (.inr ⟨items.push (.ref D),⟨_,by rw[e1 .arrs nofun];exact(IsL.update (show IsL h1 (ρ .arrs) items n from g _ _ la) _)⟩,Qm (ν_succ X ha) l2,by rw[Array.size_push,Nat.add_right_comm];exact Nat.succ_le_succ l3,Qf (f:= .arr) (fun _ _=>Lc.arr.inj) l2 W.pa l4⟩) (fun j fs q=> .inl ⟨q,nofun⟩)
   (fun j fs q=>(Pt q).elim (fun z=> .inr (by rw[z.1,z.2];exact⟨ys,Wx hl fun x q=>by rw[Qy,Heap.get?_update_other _ _ hne];exact q,hn⟩)) fun z=> .inl ⟨z.2,nofun⟩) (.inl ⟨rfl,nofun,fun k z=>z⟩) W.dis (Jc lt W.disA) W.po (by rw[ν_succ X ha];exact Int.le_trans W.pa (Int.le_of_lt (Int.lt_succ _)))
 exact⟨items,n,g _ _ la,Iq X hz l3,z.1,⟨fun b x nb q=>z.2.1 b x (nD q) nb q,fun b x nb q=>z.2.2 b (nD q) nb⟩,dm,hdr,rfl,rfl⟩
theorem R.newObj{s:Shared}{h1:Heap}{kvs:List (Int×Value)}{fs0:List (Int×Int)}{m:Int}(r:R C σ ρ s.heap)(hw:σ.w=some w)(hz:w.bnd≤100000)(ha:Tt w.nobj 1=some m)(hD:∀l,Z2 C σ l→ρ l≠D)(hK:C.K.lookup D=none)(hq:∀o vs n,s.heap.get? D=some o→o.data≠ .seq vs n)
 (g:∀b o,b≠D→s.heap.get? b=some o→h1.get? b=some o) (hl:h1.DictOf (intKind C.prog C.wld) D kvs) (hfs:fs0.length≤100) (hn:NumEnts C.ν fs0 kvs):∃items n,IsL h1 (ρ .objs) items n∧items.size≤sizeLine∧
   R C {σ with w:=some {w with obj:=(w.nobj,fs0)::w.obj,nobj:=m,bnd:=w.bnd + 1}} (upd ρ (.obj w.nobj) D) (h1.update (ρ .objs) (Obj.mapSeq fun zs=>zs.push (.ref D)))∧
   (∀b x,b≠D→¬Own C σ ρ b→s.heap.get? b=some x→(h1.update (ρ .objs) (Obj.mapSeq fun zs=>zs.push (.ref D))).get? b=some x)∧
   (∀b,b≠D→¬Own C σ ρ b→¬Own C {σ with w:=some {w with obj:=(w.nobj,fs0)::w.obj,nobj:=m,bnd:=w.bnd + 1}} (upd ρ (.obj w.nobj) D) b)∧
   (∀l,Dom σ l→Dom {σ with w:=some {w with obj:=(w.nobj,fs0)::w.obj,nobj:=m,bnd:=w.bnd + 1}} l)∧(∀l,Dom σ l→upd ρ (.obj w.nobj) D l=ρ l):=by
 have W:=r.rw w hw;refine W.objs_e fun items la l2 l3 l4=>la.elim fun n la=> ?_;have lt:∀j,(Zc w.obj j).isSome=true→C.ν j < C.ν w.nobj:=fun j=>K5 (f:= .obj) l2 l4;have lA:Z2 C σ .objs:=⟨w,hw,trivial⟩;have hne:=hD .objs lA;have e1:∀l,l≠ .obj w.nobj→upd ρ (.obj w.nobj) D l=ρ l:=fun l=>Ij;have hdr:∀l,Dom σ l→upd ρ (.obj w.nobj) D l=ρ l:=fun l d=>e1 l fun z=>by
  rw[z] at d;exact Nc (Na lt) (Fp hw d)
 have dm:=I8 hw (w':={w with obj:=(w.nobj,fs0)::w.obj,nobj:=m,bnd:=w.bnd + 1}) (fun k z=>Re (l:=w.obj) z) fun k z=>z
 have z:=r.wld (w':={w with obj:=(w.nobj,fs0)::w.obj,nobj:=m,bnd:=w.bnd + 1}) (lcN:= .obj w.nobj) (lcL:= .objs) (D:=D) (h':=h1.update (ρ .objs) (Obj.mapSeq fun zs=>zs.push (.ref D))) hw rfl hD hK hq hdr (fun n=>e1 _ nofun) lA ⟨nofun,nofun⟩
  (fun l d=>(Hw (w':={w with obj:=(w.nobj,fs0)::w.obj,nobj:=m,bnd:=w.bnd + 1}) (lcN:= .obj w.nobj) hw (fun k z=>(Wh (l:=w.obj) z).symm.imp (fun z=>z.2) fun z=>congrArg Lc.obj z) (fun k z=> .inl z) l d).imp id fun z=>⟨z,z ▸ Qy⟩) dm (Ii g)
  fun st un=>W.chg (lcL:= .objs) hw st hdr (fun n=>e1 _ nofun) un nofun rfl rfl rfl (Nat.le_succ _) (Nat.le_trans (Nat.succ_le_succ hz) (by decide))
   (.inr ⟨items.push (.ref D),⟨_,by rw[e1 .objs nofun];exact(IsL.update (show IsL h1 (ρ .objs) items n from g _ _ hne la) _)⟩,Qm (ν_succ X ha) l2,by rw[Array.size_push,Nat.add_right_comm];exact Nat.succ_le_succ l3,Qf (f:= .obj) (fun _ _=>Lc.obj.inj) l2 W.po l4⟩) (.inl ⟨nofun,rfl,fun k z=>z⟩)
   (fun j fs q=>(Pt q).elim (fun z=> .inr (by rw[z.1,z.2];exact⟨hfs,kvs,Yi hl fun x q=>by rw[Qy,Heap.get?_update_other _ _ hne];exact q,hn⟩)) fun z=> .inl ⟨z.2,nofun⟩) (fun j fs q=> .inl ⟨q,nofun⟩) (.inl ⟨rfl,nofun,fun k z=>Re (l:=w.obj) z⟩) (Jc lt W.dis) W.disA (by rw[ν_succ X ha];exact Int.le_trans W.po (Int.le_of_lt (Int.lt_succ _))) W.pa
 exact⟨items,n,g _ _ hne la,Iq X hz l3,z.1,z.2.1,z.2.2,dm,hdr⟩
end
section
variable{Z:Zx}{σ:St}{lo:Zd}
theorem Sf{C:Cx}{mg mb:Str→Option Value}(X:Vr C mg mb):∀{vs ys:List Value},Paired (Ru (.c 0)) vs ys→Nums C.ν (List.replicate vs.length 0) ys
 | [],_,p=>by cases p;rfl
 |v::vs,_,p=>by
  cases p with
  |cons p1 p2=>exact p1.elim fun tk e=>⟨_,tk,by rw[e,show C.ν 0=0 from Zo X.v0 rfl],Sf X p2⟩
def Zr(Z:Zx)(k:Clo)(a:Expr):Prop:=∀lo σ n σ',k lo σ=some (.dat (.int n),σ')→leN n 100000=true→∀A s ρ Q E,Pre Z lo A s σ ρ→
 (∀ρ1 s1 D h' tk ys,Pre Z lo A s1 σ' ρ1→Ext Z.C σ ρ s σ' ρ1 s1→(∀b o,s1.heap.get? b=some o→h'.get? b=some o)→s1.heap.get? D=none→IsLx h' D ys→Nums Z.C.ν (List.replicate n.toNat 0) ys.toList→Q (.ref D) {s1 with heap:=h',toks:=tk})→Z.wp A (eval a Z.env) Q E s
theorem Zzu(H:ZOk Z){k:Clo}{y:Str}{ne it:Expr}{j:Nat}{cp yp p:Pos}{sc:Scope}(he:RgE Z k it)(pl:Z1 it=true)(o2:Yc sc y=true):Zr Z k (.ListComp (.Constant (.int 0) j cp) [⟨.Name y yp,it,[],0⟩] sc p):=fun lo σ n σ' h1 hn A s ρ Q E P q=>by
 have S:=Wq o2;refine ListComp_rowsP (S.all nofun nofun) (S.all nofun nofun) S.kind (S.all (p:=fun y=>y.2= .local→sc.names.lookup y.1=some .local) (fun _=>by rw[S.names];rfl) fun _=>S.look) S.look (S1 H he h1 hn A s ρ _ _ P fun ρ1 s1 G I h fp P' S' P1 k1 T=> ?_) (Yz pl);refine⟨fun _=>true,Ru (.c 0),I,fp,[I],(Xc n).length,P',S',rfl,T.walks,by rw[Yw,sizeLine_eq];exact Nat.le_trans (Int.toNat_le.mpr (Ww hn).2) (by decide),T.st,T.lt,Rc S rfl,fun D h' tk2 ys vs hD hl hp hl2 hP hF hk=> ?_⟩;have keep:∀b o,s1.heap.get? b=some o→h'.get? b=some o:=fun b o g=>hk b o (fun z=>by rw[List.mem_singleton.mp z,T.new] at g;exact nn g) (T.keep b o g);have hD':s1.heap.get? D=none:=by
  cases z:s1.heap.get? D with
  |none=>rfl
  |some o=>rw[T.keep _ _ z] at hD;exact nn hD.symm
 rw[Vu] at hF;have nz:=Sf H.X hF;rw[hl2,Yw] at nz;exact q ρ1 s1 D h' tk2 ys P1 k1 keep hD' (hp.elim fun nn hp=>⟨nn,hp⟩) nz
theorem Zmx(H:ZOk Z){cf:Nat→List V→St→Res}(hcf:SoundCF Z.C Z.d cf){md:Nat}{e:IE}{a:Expr}(h:ok0 Z.t e a=true){M:Expr→Prop}(f:∀a,Z1 a=true→Zr Z (kE Z.C.T cf md e).1 a→M a):M a:=
 Jt h fun elt y yp it sc p o2 h=>Xh (M:=fun elt=>M (.ListComp elt [⟨.Name y yp,it,[],0⟩] sc p)) h fun c j cp h=>Pl (M:=fun c=>M (.ListComp (.Constant c j cp) [⟨.Name y yp,it,[],0⟩] sc p)) h fun i h=>Yp h fun h0 h=>by
  rw[of_decide_eq_true h0];exact U1 (M:=fun it=>M (.ListComp _ [⟨.Name y yp,it,[],0⟩] sc p)) h fun g as kw p1 h=>Zt (M:=fun kw=>M (.ListComp _ [⟨.Name y yp,.Call g as kw p1,[],0⟩] sc p)) h fun h=>Yp h fun h1 h2=>Ec (b:= .range) (M:=fun g=>M (.ListComp _ [⟨.Name y yp,.Call g as [] p1,[],0⟩] sc p)) H h1 fun x xp m0 m1 m2=>
   Zw (M:=fun as=>M (.ListComp _ [⟨.Name y yp,.Call (.Name x xp) as [] p1,[],0⟩] sc p)) h2 fun n hn=>f _ rfl (Zzu (ne:=n) H (T7 H (Mz H hcf md e n hn).s m0 m1 m2) rfl o2)
theorem Zg7{j:Nat}{u:Unit}(h:isW lo j=some u):lo[j]? =some (some (.loc .w)):=Za h fun o e h=>Za h fun v e2 h=>Ew (M:=fun v=>o=some v→_) h (fun l h=>Zgn (M:=fun l=>o=some (.loc l)→_) h fun _ e2=>by rw[e,e2]) e2
def Gb:WK→Lc
 |.arrays=> .arrs
 |.objs=> .objs
 |_=> .w
theorem Hh{A:Around}{s:Shared}{ρ:Rho}(P:Pre Z lo A s σ ρ){j:Nat}{u:Unit}(h:isW lo j=some u):∃w,σ.w=some w:=P.F.at_.elim fun m a=>(a.2 j _ (Zg7 h)).elim fun n e=>e.elim fun k e=>e.elim fun x e=>e.2.2.2.elim fun w e=>⟨w,e.1⟩
theorem W1(H:ZOk Z){j:Nat}{wk:WK}{n y nn:Str}{k1:_}{np p1 p2 ap cp ep:Pos}{a:Expr}{u:Unit}(hw:wk= .arrays∨wk= .objs)(o0:(ap.endLine == cp.line)=true)(o1:okN Z.t .local j n=true)(o2:Zs y (Wy wk)=true)(o3:Zs nn "append"=true)(pa:Z1 a=true)(hj:isW lo j=some u)
 {A:Around} {s:Shared} {ρ:Rho} (Q:Flow→Shared→Prop) (E:Value→Shared→Prop) (Pr:Pre Z lo A s σ ρ)
 (q:∀ρ1 s1,Pre Z lo A s1 σ ρ1→Ext Z.C σ ρ s σ ρ1 s1→Z.wp A (eval a Z.env) (fun v s₁=>∃items n,items.size≤sizeLine∧IsL s₁.heap (ρ1 (Gb wk)) items n∧Q .next {s₁ with heap:=s₁.heap.update (ρ1 (Gb wk)) (Obj.mapSeq fun xs=>xs.push v)}) E s1):
 Z.wp A (exec (.Expr (.Call (.Attribute (.Subscript (.Name n np) (.Constant (.str y) k1 p1) p2) nn ap) [a] [] cp) ep) Z.env) Q E s:=by
 rw[strB_iff.mp o3];refine(Hh Pr hj).elim fun w hw'=>wpAny_Expr_any (wpAny_Call_method1_late rfl o0 (by rw[Zh pa];rfl) ?_) (Nf H.N) rfl;have ev:eWk (eNm j) wk lo σ=some (wkV w wk,σ):=by
  unfold eWk bW;rw[show eNm j lo σ=some (.loc .w,σ) from(Mp (Zg7 hj)).trans rfl];exact Mp (f:=fun w=>some (wkV w wk,σ)) hw'
 refine(Ygw (Zyy H o1) o2).s lo σ _ σ ev A s ρ _ _ Pr fun ρ1 s1 v P1 k1' v1=> ?_;have hv:v= .ref (ρ1 (Gb wk))∧∃items n,IsL s1.heap (ρ1 (Gb wk)) items n:=by
  have W:=P1.r.rw w hw';rcases hw with rfl |rfl
  ·exact⟨v1.1,W.arrs_e fun items l _ _ _=>l.elim fun n l=>⟨items,n,l⟩⟩
  ·exact⟨v1.1,W.objs_e fun items l _ _ _=>l.elim fun n l=>⟨items,n,l⟩⟩
 obtain⟨rfl,items,m,l⟩:=hv;exact⟨"list","list.append",PySem.F.plainAttrs_list,PySem.F.slot_list_append,PySem.F.type_list_append,l.isList.typeIs,fun b hb=>by cases hb;exact⟨_,l,rfl⟩,P.append_list (q ρ1 s1 P1 k1')⟩
theorem Zph(H:ZOk Z){j:Nat}{e:Clo}{n y nn:Str}{k1:_}{np p1 p2 ap cp ep:Pos}{a:Expr}(o0:(ap.endLine == cp.line)=true)(o1:okN Z.t .local j n=true)(o2:Zs y (Wy .arrays)=true)(o3:Zs nn "append"=true)(pa:Z1 a=true)(he:Zr Z e a):
 SSt Z (Zr0 j e) (.Expr (.Call (.Attribute (.Subscript (.Name n np) (.Constant (.str y) k1 p1) p2) nn ap) [a] [] cp) ep):=fun lo σ fl lo' σ' ev=>Za ev fun u hj ev=>Fa ev fun i σ1 h1 ev=>Za ev fun w hw ev=>Zl ev fun hz ev=>Za ev fun m h3 ev=>Xz ev fun A s ρ Q E P q=>
 W1 H (.inl rfl) o0 o1 o2 o3 pa hj Q E P fun ρ1 s1 P1 k1'=>he lo σ i σ1 h1 (a2 hz).1 A s1 ρ1 _ _ P1 fun ρ2 s2 D h' tk ys P2 k2 g hD hl hn=>by
  refine(P2.r.newArr (tk:=tk) H.X hw (Nat.le_of_ble_eq_true (a2 hz).2) h3 hD g hl hn).elim fun items z=>z.elim fun mm z=> ?_;rw[show ρ2 .arrs=ρ1 .arrs from k2.rho _ ((Hh P hj).elim fun w0 hw0=>⟨w0,hw0,trivial⟩)] at z;exact⟨items,mm,z.2.1,z.1,q.nx (P2.to (s':={s2 with heap:=_,toks:=tk}) z.2.2.1 z.2.2.2) ((k1'.trans k2).trans z.2.2.2).l⟩
theorem Nums.append{ν:Int→Int}:∀{a b:List Int} {vs ws:List Value},Nums ν a vs→Nums ν b ws→Nums ν (a++b) (vs++ws)
 | [],b,vs,ws,h1,h2=>by rw[show vs=[] from h1];exact h2
 |i::a,b,vs,ws,h1,h2=>Nums.cons_e (M:=fun vs=>Nums ν (i::(a++b)) (vs++ws)) h1 fun t vs' h=>⟨vs'++ws,t,rfl,Nums.append h h2⟩
theorem J3{ν:Int→Int}{h:Heap}{P:Addr→Prop}:∀{ds:List D} {is:List Int} {vs:List Value},ints? ds=some is→RdDs h P (mDs ν ds) vs→Nums ν is vs
 | [],is,vs,e,r=>sj e ▸ r
 |d::ds,is,vs,e,r=>T9 (M:=fun d is=>RdDs h P (mD ν d::mDs ν ds) vs→Nums ν is vs) e (fun i l e1 r=>RdDs.cons_e (d:= .int (ν i)) (r:=mDs ν ds) (M:=fun vs=>Nums ν (i::l) vs) r fun v vs' r1 r2=>r1.elim fun t e=>⟨vs',t,by rw[e],J3 e1 r2⟩) r
theorem F5{n:Int}(h:leN n 1000=true):leN n 100000=true:=Po (M:=fun n=>leN n 100000=true) h fun k hk=>Nat.ble_eq_true_of_le (Nat.le_trans hk (by decide))
theorem Za7(H:ZOk Z){j:Nat}{xs e:Clo}{n y nn:Str}{k1:_}{np p1 p2 ap cp ep bp:Pos}{l r:Expr}(o0:(ap.endLine == cp.line)=true)(o1:okN Z.t .local j n=true)(o2:Zs y (Wy .arrays)=true)(o3:Zs nn "append"=true)(hx:S2 Z xs l)(he:Zr Z e r):
 SSt Z (Ar j xs e) (.Expr (.Call (.Attribute (.Subscript (.Name n np) (.Constant (.str y) k1 p1) p2) nn ap) [.BinOp l .Add r bp] [] cp) ep):=fun lo σ fl lo' σ' ev=>Za ev fun u hj ev=>Zrf ev fun ds σ1 h1 ev=>Fa ev fun i σ2 h2 ev=>Za ev fun w hw ev=>Za ev fun is hi ev=>Zl ev fun hz ev=>Xy hz fun z1 z2 z3=>Za ev fun m h6 ev=>Xz ev fun A s ρ Q E P0 q=>
 W1 H (.inl rfl) o0 o1 o2 o3 rfl hj Q E P0 fun ρ1 s1 P1 k1'=>wpAny_BinOp (hx.s lo σ _ σ1 h1 A s1 ρ1 _ _ P1 fun ρ2 s2 u P2 k2 v2=>he lo σ1 i σ2 h2 (F5 z1) A s2 ρ2 _ _ P2 fun ρ3 s3 D h' tk ys P3 k3 g hD hl hn=>(v2.ext k3).list_e fun a vs n1 pa la ra ea=>hl.elim fun n2 lb=>by
  have nv:=J3 hi ra;refine P.add_list (s:={s3 with heap:=h',toks:=tk}) (g _ _ la) lb ?_ (by rw[← Array.length_toList,nv.len,← Array.length_toList (xs:=ys),hn.len,List.length_replicate,sizeLine_eq];exact Nat.le_trans (Nat.add_le_add (Nat.le_of_ble_eq_true z2) (Int.toNat_le.mpr (Ww z1).2)) (by decide));have hD2:s3.heap.get? h'.objs.size=none:=by
   cases z:s3.heap.get? h'.objs.size with
   |none=>rfl
   |some o=>have:=g _ _ z;rw[Zv] at this;exact Mine.nn this
  refine(P3.r.newArr (tk:=tk) (D:=h'.objs.size) (h1:=h'.push {cls:= .type "list",data:= .seq (vs++ys)}) (ys:=vs++ys) H.X hw (Nat.le_of_ble_eq_true z3) h6 hD2 (fun b o z=>Heap.get?_push_of_some _ (g b o z)) ⟨0,Heap.get?_push_size _ rfl⟩ (by rw[Array.toList_append];exact nv.append hn)).elim fun items z=>z.elim fun mm z=> ?_;have hw0:Dom σ .arrs:=(Hh P0 hj).elim fun w0 hw0=>⟨w0,hw0,trivial⟩;rw[show ρ3 .arrs=ρ1 .arrs from(k3.rho .arrs (k2.dom .arrs hw0)).trans (k2.rho .arrs hw0)] at z
  exact⟨items,mm,z.2.1,z.1,q.nx (P3.to (s':={s3 with heap:=_,toks:=tk}) z.2.2.1 z.2.2.2) ((k1'.trans k2).trans (k3.trans z.2.2.2)).l⟩)
theorem V1{K:Type} [DecidableEq K]:∀{more acc:List (K×Value)},((acc++more).map (·.1)).Nodup→merged acc more=acc++more
 | [],acc,h=>(List.append_nil acc).symm
 |(k,v)::more,acc,h=>by
  have hk:¬acc.any (fun kv=>kv.1=k)=true:=fun z=>by
   obtain⟨x,hx,z⟩:=List.any_eq_true.mp z;rw[List.map_append,List.map_cons,List.nodup_append] at h;exact h.2.2 k (of_decide_eq_true z ▸ List.mem_map_of_mem hx) k (.head _) rfl
  show merged (stored acc k v) more=_;rw[show stored acc k v=acc++[(k,v)] from if_neg hk,V1 (by rw[List.append_assoc];exact h),List.append_assoc];rfl
theorem W6:∀{l:List Int},Vh l=true→l.Nodup
 | [],_=>List.nodup_nil
 |i::r,h=>List.nodup_cons.mpr ⟨fun hm=>nf ((nb (a2 h).1).symm.trans (List.any_eq_true.mpr ⟨i,hm,Sv i⟩)),W6 (a2 h).2⟩
theorem O5{T:Tb}{p:Nat×Nat}{ks:List (Nat×Nat)}{is:List Int}(e:U4 T (p::ks)=some is){P:Prop}(k:∀i l,T.gval p.2=some (.dat (.int i))→U4 T ks=some l→is=i::l→P):P:=Za (x:=T.gval p.2) e fun v e1 e=>Q6 (M:=fun v=>T.gval p.2=some v→P) e (fun i e e1=>Za (x:=U4 T ks) e fun l e2 e=>k i l e1 e2 (sj e).symm) e1
theorem Ki{v:V}{vs:List V}{l:List Int}(e:Sy (v::vs)=some l){M:V→List Int→Prop}(k:∀i r,Sy vs=some r→M (.dat (.int i)) (i::r)):M v l:=Q6 (M:=fun v=>M v l) (show vZ v (fun d=>ob (Sy vs) fun ds=>some (d::ds))=some l from e) fun i e=>Za e fun r e1 e=>sj e ▸ k i r e1
theorem Wp{T:Tb}:∀{ks:List (Nat×Nat)} {is:List Int},U4 T ks=some is→is.length=ks.length
 | [],is,e=>by cases e;rfl
 |p::r,is,e=>O5 e fun i l _ e2 e3=>by rw[e3];exact congrArg (· + 1) (Wp e2)
theorem Vk:∀{us:List V} {l:List Int},Sy us=some l→l.length=us.length
 | [],l,e=>by cases e;rfl
 |u::us,l,e=>Ki (M:=fun _ l=>l.length=us.length + 1) e fun i r e=>congrArg (· + 1) (Vk e)
@[elab_as_elim] theorem Zeq {a:KE} {l:List KE} {lo:Zd} {σ σ':St} {us:List V} (e:eEs (a::l) lo σ=some (us,σ')) {M:List V→St→Prop} (k:∀v σ1 vs σ2,a.1 lo σ=some (v,σ1)→eEs l lo σ1=some (vs,σ2)→M (v::vs) σ2):M us σ':=
  Yk (x:=a.1 lo σ) (f:=fun v σ1=>bd (eEs l lo σ1) fun vs σ2=>some (v::vs,σ2)) e fun v σ1 h1 e=>Yk e fun vs σ2 h2 e=>Z0 e (k v σ1 vs σ2 h1 h2)
theorem Su:∀{l:List KE} {lo:Zd} {σ σ':St} {us:List V},eEs l lo σ=some (us,σ')→us.length=l.length
 | [],lo,σ,σ',us,e=>by cases e;rfl
 |a::l,lo,σ,σ',us,e=>Zeq (M:=fun us _=>us.length=l.length + 1) e fun v σ1 vs σ2 _ h=>congrArg (· + 1) (Su h)
theorem SP.len:∀{ks:List KE} {xs:List Expr},SP Z ks xs→xs.length=ks.length
 | [],xs,e=>by rw[show xs=[] from e];rfl
 |k::ks,xs,e=>e.elim fun x e=>e.elim fun r e=>by rw[e.1];exact congrArg (· + 1) (SP.len e.2.2)
theorem Te{t:Tn}:∀{ks:List (Nat×Nat)} {kl:List (Option Expr)},Sg t ks kl=true→kl.all (·.isSome)=true∧kl.length=ks.length
 | [],kl,h=>Zt (M:=fun kl=>kl.all (·.isSome)=true∧kl.length=0) h fun _=>⟨rfl,rfl⟩
 |p::ks,kl,h=>Z6 (M:=fun kl=>kl.all (·.isSome)=true∧kl.length=ks.length + 1) h fun o r h=>S6 (M':=fun o=>(o::r).all (·.isSome)=true∧(o::r).length=ks.length + 1) h fun e h=>have z:=Te (a2 h).2;⟨z.1,congrArg (· + 1) z.2⟩
theorem Nl(H:ZOk Z){pos:Pos}:∀{ks:List (Nat×Nat)} {es:List KE} {kl:List (Option Expr)} {vl:List Expr} {is l:List Int} {us:List V} {lo:Zd} {σ σ':St},SP Z es vl→Sg Z.t ks kl=true→U4 Z.C.T ks=some is→eEs es lo σ=some (us,σ')→
 Sy us=some l→is.length=l.length→∀A s ρ Q E,Pre Z lo A s σ ρ→(∀ρ' s' prs kvs,Pre Z lo A s' σ' ρ'→Ext Z.C σ ρ s σ' ρ' s'→Carries (intKind Z.C.prog Z.C.wld) prs kvs→NumEnts Z.C.ν (is.zip l) kvs→kvs.map (·.1)=is→Q prs s')→Z.wp A (evalPairs (pairTrees kl vl Z.env pos)) Q E s
 | [],[],kl,vl,is,l,us,lo,σ,σ',hs,ok1,e1,e2,e3,e4,A,s,ρ,Q,E,P,q=>Zt (M:=fun kl=>Z.wp A (evalPairs (pairTrees kl vl Z.env pos)) Q E s) ok1 fun _=>by
   rw[show vl=[] from hs];cases e1;cases e2;cases e3;exact pairTrees_nil_walk (q ρ s [] [] P (.refl ..) trivial rfl rfl)
 | [],e::es,kl,vl,is,l,us,lo,σ,σ',hs,ok1,e1,e2,e3,e4,A,s,ρ,Q,E,P,q=>by
   have a:=Su e2;rw[← Vk e3,← e4,Wp e1] at a;exact nomatch a
 |p::ks,[],kl,vl,is,l,us,lo,σ,σ',hs,ok1,e1,e2,e3,e4,A,s,ρ,Q,E,P,q=>by
  have a:=Su e2;rw[← Vk e3,← e4,Wp e1] at a;exact nomatch a
 |p::ks,e::es,kl,vl,is,l,us,lo,σ,σ',hs,ok1,e1,e2,e3,e4,A,s,ρ,Q,E,P,q=>Z6 (M:=fun kl=>Z.wp A (evalPairs (pairTrees kl vl Z.env pos)) Q E s) ok1 fun ko kl ok1=>S6 (M':=fun ko=>Z.wp A (evalPairs (pairTrees (ko::kl) vl Z.env pos)) Q E s) ok1 fun ke ok1=>Yp ok1 fun o1 o3=>
  B8 (M:=fun ke=>Z.wp A (evalPairs (pairTrees (some ke::kl) vl Z.env pos)) Q E s) o1 fun x xp hj hx=>hs.elim fun ve hs=>hs.elim fun vr hs=>O5 e1 fun i is' g1 g2 z1=>by
   have z0:=hs.1;subst z0 z1;have fin:∀(w:V) (σ1:St) (ws:List V) (σ2:St),e.1 lo σ=some (w,σ1)→eEs es lo σ1=some (ws,σ2)→Sy (w::ws)=some l→(∀ρ' s' prs kvs,Pre Z lo A s' σ2 ρ'→Ext Z.C σ ρ s σ2 ρ' s'→Carries (intKind Z.C.prog Z.C.wld) prs kvs→NumEnts Z.C.ν ((i::is').zip l) kvs→kvs.map (·.1)=i::is'→Q prs s')→Z.wp A (evalPairs (pairTrees (some (.Name x xp)::kl) (ve::vr) Z.env pos)) Q E s:=fun w σ1 ws σ2 h1 h2 e3 q=>by
    refine Ki (M:=fun w l=>e.1 lo σ=some (w,σ1)→(i::is').length=l.length→(∀ρ' s' prs kvs,Pre Z lo A s' σ2 ρ'→Ext Z.C σ ρ s σ2 ρ' s'→Carries (intKind Z.C.prog Z.C.wld) prs kvs→NumEnts Z.C.ν ((i::is').zip l) kvs→kvs.map (·.1)=i::is'→Q prs s')→Z.wp A (evalPairs (pairTrees (some (.Name x xp)::kl) (ve::vr) Z.env pos)) Q E s) e3 (fun iv lv g4 h1 e4 q=> ?_) h1 e4 q;have lit:Yo i=true:=(H.X.gv p.2 _ g1).elim fun y z=>z.2.1;refine pairTrees_cons_walk (two (Ygv H hj hx).s hs.2.1.s (show eGl Z.C.T p.2 lo σ=some (.dat (.int i),σ) from Mp g1) h1 P fun ρ2 s2 kv vv P2 k2 v1 v2=>v1.int_e fun t1=>v2.int_e fun t2=> ?_);rw[show Z.C.ν i=i from Zo H.X.v0 lit];exact Nl H hs.2.2 o3 g2 h2 g4 (Nat.succ.inj e4) A s2 ρ2 _ _ P2 fun ρ3 s3 prs kvs P3 k3 c1 c2 c3=>
     q ρ3 s3 _ ((i,.int (Z.C.ν iv) t2)::kvs) P3 (k2.trans k3) ⟨intKind_is Z.C.prog Z.C.wld i t1,rfl,c1⟩ ⟨t2,kvs,rfl,lit,c2⟩ (congrArg (i:: ·) c3)
   exact Zeq (M:=fun us σ'=>Sy us=some l→(∀ρ' s' prs kvs,Pre Z lo A s' σ' ρ'→Ext Z.C σ ρ s σ' ρ' s'→Carries (intKind Z.C.prog Z.C.wld) prs kvs→NumEnts Z.C.ν ((i::is').zip l) kvs→kvs.map (·.1)=i::is'→Q prs s')→Z.wp A (evalPairs (pairTrees (some (.Name x xp)::kl) (ve::vr) Z.env pos)) Q E s) e2 fin e3 q
theorem Zpi(H:ZOk Z){j:Nat}{ks:List (Nat×Nat)}{es:List KE}{n y nn:Str}{k1:_}{np p1 p2 ap cp ep dp:Pos}{kl:List (Option Expr)}{vl:List Expr}(o0:(ap.endLine == cp.line)=true)(o1:okN Z.t .local j n=true)(o2:Zs y (Wy .objs)=true)(o3:Zs nn "append"=true)
 (o4:Sg Z.t ks kl=true) (hs:SP Z es vl) (o6:kl.length≤15) (o7:kl≠[]):SSt Z (Zr3 Z.C.T j ks (eEs es)) (.Expr (.Call (.Attribute (.Subscript (.Name n np) (.Constant (.str y) k1 p1) p2) nn ap) [.Dict kl vl dp] [] cp) ep):=
 fun lo σ fl lo' σ' ev=>Za ev fun u hj ev=>Za ev fun is h0 ev=>Yk ev fun us σ1 h1 ev=>Za ev fun l hl ev=>Za ev fun w hw ev=>Zl ev fun hz ev=>Xy hz fun z1 z2 z3=>Za ev fun m h5 ev=>Xz ev fun A s ρ Q E P q=>by
 have h2:=Nat.eq_of_beq_eq_true z1;have hw0:Dom σ .objs:=(Hh P hj).elim fun w0 hw0=>⟨w0,hw0,trivial⟩;refine W1 H (.inr rfl) o0 o1 o2 o3 rfl hj Q E P fun ρ1 s1 P1 k1'=> ?_;have a:=Te o4;have lens:is.length=kl.length:=(Wp h0).trans a.2.symm;have lvl:vl.length=kl.length:=(hs.len.trans (Su h1).symm).trans ((Vk hl).symm.trans (h2.symm.trans lens));have kp:Ext Z.C σ ρ1 s1 σ ρ1 {s1 with heap:=s1.heap.push {cls:= .type "dict",data:= .dict #[]}}:= .grow Vv rfl;have hD0:=Zv s1.heap;have nown:=P1.r.fresh hD0;have liv0:∀l,Z2 Z.C σ l→ρ1 l≠s1.heap.objs.size:=fun l dl z=>(P1.r.there dl).elim fun x hx=>by rw[z,hD0] at hx;exact Mine.nn hx
 refine wpAny_Dict_walk (knd:=intKind Z.C.prog Z.C.wld) a.1 (by rw[lvl]) o7 o6 (Nl H hs o4 h0 h1 hl h2 A {s1 with heap:=s1.heap.push {cls:= .type "dict",data:= .dict #[]}} ρ1 _ _ (P1.grow Vv rfl) fun ρ3 s3 prs kvs P3 k3 c1 c2 c3=> ?_);have g0:(s1.heap.push {cls:= .type "dict",data:= .dict #[]}).get? s1.heap.objs.size=some {cls:= .type "dict",data:= .dict #[]}:=Heap.get?_push_size _ rfl;have g3:=k3.stays.get _ _ nown g0;have own3:=k3.stays.own _ _ nown g0;refine⟨kvs,c1,⟨_,#[],0,g3,⟨rfl,rfl,rfl⟩,rfl,fun _ he=>by simp at he,.nil,List.nodup_nil⟩,fun h' hd sb=> ?_⟩;rw[V1 (by rw[List.nil_append,c3];exact W6 z3),List.nil_append] at hd
 refine(P3.r.newObj (m:=m) (fs0:=is.zip l) (kvs:=kvs) (h1:=h') (D:=s1.heap.objs.size) H.X hw (Nat.le_of_ble_eq_true z2) h5 (Vm k3.base P1.F.old k3.rho liv0 own3) (Yb P1.r hD0) (fun o vs n g e=>nomatch ((sj (g3.symm.trans g)) ▸ e)) (fun b o hb g=>(sb.2 b hb).trans g) hd
  (by rw[List.length_zip,← h2,Nat.min_self,lens];exact Nat.le_trans o6 (by decide)) c2).elim fun items z=>z.elim fun mm z=> ?_
 rw[show ρ3 .objs=ρ1 .objs from k3.rho .objs hw0] at z;have k4:=kp.trans k3;have nD:∀{b o},s1.heap.get? b=some o→b≠s1.heap.objs.size:=fun g z=>by rw[z,hD0] at g;exact Mine.nn g
 have kx:Ext Z.C σ ρ1 s1 {σ1 with w:=some {w with obj:=(w.nobj,is.zip l)::w.obj,nobj:=m,bnd:=w.bnd + 1}} (upd ρ3 (.obj w.nobj) s1.heap.objs.size) {s3 with heap:=h'.update (ρ1 .objs) (Obj.mapSeq fun zs=>zs.push (.ref s1.heap.objs.size)),toks:=s3.toks + prs.length}:=
  ⟨⟨fun b o nb g=>z.2.2.2.1 b o (nD g) (k4.stays.own b o nb g) (k4.stays.get b o nb g),fun b o nb g=>z.2.2.2.2.1 b (nD g) (k4.stays.own b o nb g)⟩,fun l dl=>z.2.2.2.2.2.1 l (k4.dom l dl),fun l dl=>(z.2.2.2.2.2.2 l (k4.dom l dl)).trans (k4.rho l dl),k4.base,k4.rest⟩
 exact⟨items,mm,z.2.1,z.1,q.nx (P1.to z.2.2.1 kx) (k1'.trans kx).l⟩
end
section
variable{Z:Zx}(H:ZOk Z){cf:Nat→List V→St→Res}(hcf:SoundCF Z.C Z.d cf)
theorem Px{s:Stmt}{k:Expr→Str→Expr→Bool}(h:Tw s k=true){M:Stmt→Prop}(f:∀x y k1 p1 p2 nn ap a cp ep,(ap.endLine == cp.line)=true→Zs nn "append"=true→k x y a=true→M (.Expr (.Call (.Attribute (.Subscript x (.Constant (.str y) k1 p1) p2) nn ap) [a] [] cp) ep)):M s:=
 Zgd h fun v ep h=>Qg (M:=fun v=>M (.Expr v ep)) h fun o nn ap as cp _ hl h=>Yp h fun hn h=>Zw (M:=fun as=>M (.Expr (.Call (.Attribute o nn ap) as [] cp) ep)) h fun a h=>We (M:=fun o=>M (.Expr (.Call (.Attribute o nn ap) [a] [] cp) ep)) h fun x i p2 h=>
  Xh (M:=fun i=>M (.Expr (.Call (.Attribute (.Subscript x i p2) nn ap) [a] [] cp) ep)) h fun c k1 p1 h=>Kp (M:=fun c=>M (.Expr (.Call (.Attribute (.Subscript x (.Constant c k1 p1) p2) nn ap) [a] [] cp) ep)) h fun y h=>f x y k1 p1 p2 nn ap a cp ep hl hn h
theorem Eu{j k:Nat}{x:Expr}{g:Bool}(h:(Mk x fun l _ _=>Wc l fun x r=>Yt r fun y=>X5 Z.t j x&&(X5 Z.t k y&&g))=true){M:Expr→Prop}(f:∀m mp n np kk tp,okN Z.t .local j m=true→okN Z.t .local k n=true→g=true→M (.Tuple [.Name m mp,.Name n np] kk tp)):M x:=
 Kt h fun l kk tp h=>Z6 (M:=fun l=>M (.Tuple l kk tp)) h fun x r h=>Zw (M:=fun r=>M (.Tuple (x::r) kk tp)) h fun y h=>Xy h fun h1 h2 h3=>Ud (M:=fun x=>M (.Tuple [x,y] kk tp)) h1 fun m mp h1=>Ud (M:=fun y=>M (.Tuple [.Name m mp,y] kk tp)) h2 fun n np h2=>f m mp n np kk tp h1 h2 h3
theorem Et{T:Tb}{f:Nat→List V→St→Res}{md:Nat}{l:List IS}{a:Ye}{st:Stmt}{sts:List Stmt}(ha:SSt Z a st)(hb:SSs Z (kSs T f md l) sts):SSs Z (Av l a (kSs T f md l)) (st::sts):=by
 cases l with
 |nil=>exact fun lo σ fl lo' σ' ev=>Zpe ha hb lo σ fl lo' σ' ((Yj1 (a lo σ)).trans ev)
 |cons s r=>exact Zpe ha hb
include H hcf
theorem Ygy(md:Nat):∀{l:List IE} {xs:List Expr},Mq Z.t l xs=true→SLs Z (kEs Z.C.T cf md l) xs
 | [],xs,h=>Zt (M:=SLs Z _) h fun _=>⟨rfl,Ep,fun op=>rfl,fun _ _ _=>rfl⟩
 |e::l,xs,h=>Z6 (k:=fun x xs=>okE Z.t e x&&Mq Z.t l xs) (M:=SLs Z _) h fun x xs h=>Yp h fun h1 h2=>Nz (Mz H hcf md e x h1).s (Ygy md h2)
theorem Zoz(md:Nat)(is:IS):∀x,okS Z.t is x=true→SSt Z (kS Z.C.T cf md is) x:=by
 have E:=fun{e:IE} {x:Expr} (h:okE Z.t e x=true)=>Mz H hcf md e x h
 refine IS.rec (motive_1:=fun is=>∀x,okS Z.t is x=true→SSt Z (kS Z.C.T cf md is) x) (motive_2:=fun l=>∀xs,Rm Z.t l xs=true→SSs Z (kSs Z.C.T cf md l) xs)
  ?_ ?_ ?_ ?_ ?_ ?_ ?_ ?_ ?_ ?_ ?_ ?_ ?_ ?_ ?_ ?_ ?_ ?_ ?_ ?_ is
 ·exact fun j e s (h:(Sb s fun xs v _=>Yt xs fun x=>X5 Z.t j x&&(okE Z.t e v&&(!Zq v || Tf x v)))=true)=>Wb (M:=SSt Z _) h fun xs v p h=>Zw (M:=fun xs=>SSt Z _ (.Assign xs v p)) h fun x h=>Xy h fun h1 h2 h3=>Ud (M:=fun x=>(!Zq v || Tf x v)=true→SSt Z _ (.Assign [x] v p)) h1 (fun n np hj h3=>Zzd H (E h2).s (E h2).c hj h3) h3
 ·exact fun j k e s (h:(Sb s fun xs v _=>Yt xs fun x=>Mk x fun l _ _=>Wc l fun x r=>Yt r fun y=>X5 Z.t j x&&(X5 Z.t k y&&(okE Z.t e v&&(!Zq v&& !R8 v))))=true)=>Wb (M:=SSt Z _) h fun xs v p h=>Zw (M:=fun xs=>SSt Z _ (.Assign xs v p)) h fun x h=>Eu (M:=fun x=>SSt Z _ (.Assign [x] v p)) h fun m mp n np kk tp h1 h2 h=>Xy h fun h3 h4 h5=>Zp4 H (E h3).s h1 h2 h4 h5
 ·exact fun o a e s (h:(Sb s fun xs v _=>Yt xs fun x=>Fw x fun x n _=>Zs (Z.t.an a) n&&(okE Z.t o x&&(okE Z.t e v&& !Zq v)))=true)=>Wb (M:=SSt Z _) h fun xs v p h=>Zw (M:=fun xs=>SSt Z _ (.Assign xs v p)) h fun x h=>Ko (M:=fun x=>SSt Z _ (.Assign [x] v p)) h fun x n ap h=>T1 h fun h1 h2 h3 h4=>Zpf H (E h2).s (E h3).s h1 h4
 ·exact fun o i e s (h:(Sb s fun xs v _=>Yt xs fun x=>Uk x fun x y _=>okE Z.t o x&&(okE Z.t i y&&(okE Z.t e v&& !Zq v)))=true)=>Wb (M:=SSt Z _) h fun xs v p h=>Zw (M:=fun xs=>SSt Z _ (.Assign xs v p)) h fun x h=>We (M:=fun x=>SSt Z _ (.Assign [x] v p)) h fun x y ap h=>T1 h fun h1 h2 h3 h4=>Zpg H (E h1).s (E h2).s (E h3).s h4
 ·exact fun o k e s h=>nf h
 ·exact fun j e s (h:(C1 s fun x o v _=>X5 Z.t j x&&(decide (o= .Add)&&okE Z.t e v))=true)=>Fx (M:=SSt Z _) h fun x o v p h=>Xy h fun h1 h2 h3=>(of_decide_eq_true h2).symm ▸ Ud (M:=fun x=>SSt Z _ (.AugAssign x .Add v p)) h1 fun n np hj=>Zp5 H (E h3).s hj
 ·exact fun o i e s (h:(C1 s fun x p v _=>Uk x fun x y _=>okE Z.t o x&&(okE Z.t i y&&(decide (p= .Add)&&okE Z.t e v)))=true)=>Fx (M:=SSt Z _) h fun x o v p h=>We (M:=fun x=>SSt Z _ (.AugAssign x o v p)) h fun x y ap h=>T1 h fun h1 h2 h3 h4=>(of_decide_eq_true h3).symm ▸ Zp6 H (E h1).s (E h2).s (E h4).s
 ·exact fun e s (h:(kEx s fun v _=>okE Z.t e v&& !Zq v)=true)=>Zgd (M:=SSt Z _) h fun v p h=>Yp h fun h1 h2=>Yj8 H (E h1).s h2
 ·exact fun j e s (h:(Tw s fun x y a=>X5 Z.t j x&&(Zs y "arrays"&&ok0 Z.t e a))=true)=>Px (M:=SSt Z _) h fun x y k1 p1 p2 nn ap a cp ep hl hn h=>Xy h fun h1 h2 h3=>Ud (M:=fun x=>SSt Z _ (.Expr (.Call (.Attribute (.Subscript x _ _) nn ap) [a] [] cp) ep)) h1 fun n np hj=>Zmx (md:=md) H hcf h3 fun a pa za=>Zph H hl hj h2 hn pa za
 ·exact fun j xs e s (h:(Tw s fun x y a=>X5 Z.t j x&&(Zs y "arrays"&&Pj a fun l o r _=>decide (o= .Add)&&(okE Z.t xs l&&ok0 Z.t e r)))=true)=>Px (M:=SSt Z _) h fun x y k1 p1 p2 nn ap a cp ep hl hn h=>Xy h fun h1 h2 h3=>Ud (M:=fun x=>SSt Z _ (.Expr (.Call (.Attribute (.Subscript x _ _) nn ap) [a] [] cp) ep)) h1 fun n np hj=>
   Wv (M:=fun a=>SSt Z _ (.Expr (.Call (.Attribute _ nn ap) [a] [] cp) ep)) h3 fun l o r bp h=>Xy h fun h4 h5 h6=>(of_decide_eq_true h4).symm ▸ Zmx (md:=md) (M:=fun r=>SSt Z _ (.Expr (.Call _ [.BinOp l .Add r bp] [] cp) ep)) H hcf h6 fun a pa za=>Za7 H hl hj h2 hn (E h5).s za
 ·exact fun j ks vs s (h:(Tw s fun x y a=>X5 Z.t j x&&(Zs y "objs"&&S4 a fun kl vl _=>Sg Z.t ks kl&&(Mq Z.t vs vl&&(Nat.ble kl.length 15&& !kl.isEmpty))))=true)=>Px (M:=SSt Z _) h fun x y k1 p1 p2 nn ap a cp ep hl hn h=>Xy h fun h1 h2 h3=>Ud (M:=fun x=>SSt Z _ (.Expr (.Call (.Attribute (.Subscript x _ _) nn ap) [a] [] cp) ep)) h1 fun n np hj=>
   S5 (M:=fun a=>SSt Z _ (.Expr (.Call (.Attribute _ nn ap) [a] [] cp) ep)) h3 fun kl vl dp h=>T1 h fun h4 h5 h6 h7=>Zpi H hl hj h2 hn h4 (Ygy H hcf md h5).sp (Nat.le_of_ble_eq_true h6) fun z=>by rw[z] at h7;exact nf h7
 ·exact fun c b o ihb iho s (h:(kIf s fun x y z _=>okE Z.t c x&&(Rm Z.t b y&&Rm Z.t o z))=true)=>Zgf (M:=SSt Z _) h fun x y z p h=>Xy h fun h1 h2 h3=>Zzf (E h1).s (ihb y h2) (iho z h3)
 ·exact fun j it b ih s (h:(Fz s fun x y z e _=>X4 e (X5 Z.t j x&&(okE Z.t it y&&Rm Z.t b z)))=true)=>Kq (M:=SSt Z _) h fun x y z e p h=>Zt (M:=fun e=>SSt Z _ (.For x y z e p)) h fun h=>Xy h fun h1 h2 h3=>Ud (M:=fun x=>SSt Z _ (.For x y z [] p)) h1 fun n np hj=>Zp7 H (Ok H hj) (ih z h3) (E h2)
 ·exact fun j k it b ih s (h:(Fz s fun x y z e _=>X4 e (Mk x fun l _ _=>Wc l fun x r=>Yt r fun x'=>X5 Z.t j x&&(X5 Z.t k x'&&(okE Z.t it y&&Rm Z.t b z))))=true)=>Kq (M:=SSt Z _) h fun x y z e p h=>Zt (M:=fun e=>SSt Z _ (.For x y z e p)) h fun h=>Eu (M:=fun x=>SSt Z _ (.For x y z [] p)) h fun m mp n np kk tp h1 h2 h=>Yp h fun h3 h4=>Zp8 H (Ol H h1 h2) (ih z h4) (E h3).s
 ·exact fun e s (h:(F2 s fun o _=>kSo o (okE Z.t e))=true)=>Kr (M:=SSt Z _) h fun o p h=>S6 (M':=fun o=>SSt Z _ (.Return o p)) h fun x h=>Zzj (E h).s.s
 ·exact fun s (h:(F2 s fun o _=>kNo o true)=true)=>Kr (M:=SSt Z _) h fun o p h=>Pn (M':=fun o=>SSt Z _ (.Return o p)) h fun _=>Zpd
 ·exact fun j l s _ lo σ fl lo' σ' ev=>nn ev
 ·exact fun s h=>C4 (M:=SSt Z _) (k:=fun _=>true) h fun p _=>Zpc
 ·exact fun xs (h:X4 xs true=true)=>Zt (M:=SSs Z _) h fun _=>Zpb
 ·exact fun s l ihs ihl xs (h:(Wc xs fun x l'=>okS Z.t s x&&Rm Z.t l l')=true)=>Z6 (M:=SSs Z _) h fun x xs h=>Yp h fun h1 h2=>Et (ihs x h1) (ihl xs h2)
theorem Ia(md:Nat):∀{l:List IS} {xs:List Stmt},Rm Z.t l xs=true→SSs Z (kSs Z.C.T cf md l) xs
 | [],xs,h=>Zt (M:=SSs Z _) h fun _=>Zpb
 |s::l,xs,h=>Z6 (k:=fun x l'=>okS Z.t s x&&Rm Z.t l l') (M:=SSs Z _) h fun x xs h=>Yp h fun h1 h2=>Et (Zoz H hcf md s x h1) (Ia md h2)
end
set_option genInjectivity false
theorem So:∀{ps:List Str} {xs:List Value} {n:Str},n∈ps→xs.length=ps.length→((ps.zip xs).lookup n).isSome=true
 | [],_,_,h,_=>nomatch h
 |p::ps,[],_,_,e=>nomatch e
 |p::ps,x::xs,n,h,e=>by
  rw[List.zip_cons_cons,List.lookup_cons];cases q:(n == p) with
  |true=>rfl
  |false=>exact(List.mem_cons.mp h).elim (fun z=>nf (q.symm.trans (beq_iff_eq.mpr z))) fun h=>So h (Nat.succ.inj e)
theorem Sn:∀{ps:List Str} {xs:List Value} (l:List (Str×Value)),ps.Nodup→xs.length=ps.length→(∀n∈ps,l.lookup n=(ps.zip xs).lookup n)→ps.filterMap (fun n=>(l.lookup n).map (n, ·))=ps.zip xs
 | [],[],l,_,_,_=>rfl
 | [],_::_,_,_,e,_=>nomatch e
 |p::ps,[],_,_,e,_=>nomatch e
 |p::ps,x::xs,l,nd,e,h=>by
  rw[List.nodup_cons] at nd;have h1:l.lookup p=some x:=(h p (.head _)).trans (by rw[List.zip_cons_cons,List.lookup_cons,beq_self_eq_true]);rw[List.filterMap_cons,h1];refine Us rfl (Sn l nd.2 (Nat.succ.inj e) fun n hn=>(h n (.tail _ hn)).trans ?_);rw[List.zip_cons_cons,List.lookup_cons,show(n == p)=false from Bool.eq_false_iff.mpr fun q=>nd.1 (eq_of_beq q ▸ hn)]
theorem Un{fd:FuncData}{xs:List Value}{ps:List Str}(h1:fd.params.posonlyargs=[])(h2:fd.params.args.map (·.arg)=ps)(h3:fd.params.kwonlyargs=[])(h4:fd.params.vararg=none)(h5:fd.params.kwarg=none)(h6:fd.defaults= .none)
 (nd:ps.Nodup) (hl:xs.length=ps.length):bindArgs fd ⟨xs,[]⟩=pure (ps.zip xs):=by
 unfold bindArgs;simp only[h1,h2,h3,h4,h5,h6,List.map_nil,List.nil_append];have hm:(ps.filter fun n=>((ps.zip xs).lookup n).isNone)=[]:=by
  rw[List.filter_eq_nil_iff];intro n hn;have:=So hn hl;simp only[Option.isNone_iff_eq_none];intro z;rw[z] at this;cases this
 have hf:=Sn (ps.zip xs) nd hl fun _ _=>rfl;have hs:seqItems? .none=pure none:=by
  unfold seqItems?;rfl
 rw[hs];simp[hm,hf,hl]
def tnC(C:Cx)(ns:List (Str×NameKind)):Tn:=⟨ns,C.gn,C.fn,C.cn,C.nm,C.isG⟩
structure FdOk(C:Cx)(F:Fn)(fd:FuncData)(body:List Stmt)(ps:List Str):Prop where
 bodyEq:fd.body= .stmts body
 p1:fd.params.posonlyargs=[]
 p2:fd.params.args.map (·.arg)=ps
 p3:fd.params.kwonlyargs=[]
 p4:fd.params.vararg=none
 p5:fd.params.kwarg=none
 p6:fd.defaults= .none
 len:ps.length=F.np
 at_:∀(i:Nat) (p:Str),ps[i]? =some p→fd.scope.names[i]? =some (p,.local)
 ok:Rm (tnC C fd.scope.names) F.body body=true
 code:codeIn C.K fd.code fd.qualname=true
 co:fd.scope.isCoroutine=false
 gen:fd.scope.isGenerator=false
 kind:fd.scope.kind= .function
 glo:fd.globals=mainGlobals
 blt:fd.builtins=builtinsNs
 nd:(fd.scope.names.map (·.1)).Nodup
 cell:∀x∈fd.scope.names,x.2≠ .cell
 dbg:∀x∈fd.scope.names,(x.1 == ("__debug__":Str))=false
def E2(C:Cx)(f:Nat)(F:Fn):Prop:=∃o fd body ps,C.K.lookup (C.fa f)=some o∧o.data= .func fd∧FdOk C F fd body ps
section
variable{C:Cx}{mg mb:Str→Option Value}
theorem Jb{β:Type}{l:List (Str×β)}{i j:Nat}{x:Str}{k k':β}(nd:(l.map (·.1)).Nodup)(h1:l[i]? =some (x,k))(h2:l[j]? =some (x,k')):i=j:=
 have h1':(l.map (·.1))[i]? =some x:=by rw[List.getElem?_map,h1];rfl
 have h2':(l.map (·.1))[j]? =some x:=by rw[List.getElem?_map,h2];rfl
 (List.getElem?_inj (List.getElem?_eq_some_iff.mp h1').1 nd).mp (h1'.trans h2'.symm)
theorem V0{β:Type}:∀{l:List (Str×β)} {x:Str} {k:β},(l.map (·.1)).Nodup→(x,k)∈l→l.lookup x=some k
 | [],x,k,_,h=>nomatch h
 |(y,k')::r,x,k,nd,h=>by
  rw[List.map_cons,List.nodup_cons] at nd;rw[List.lookup_cons];refine(List.mem_cons.mp h).elim (fun z=> ?_) fun h=> ?_
  ·rw[(Prod.mk.inj z).1,beq_self_eq_true,(Prod.mk.inj z).2]
  ·rw[show(x == y)=false from Bool.eq_false_iff.mpr fun q=>nd.1 (eq_of_beq q ▸ List.mem_map_of_mem (f:=(·.1)) h)]
   exact V0 nd.2 h
theorem U9{β:Type}{l:List (Str×β)}{j:Nat}{x:Str}{k:β}(nd:(l.map (·.1)).Nodup)(h:l[j]? =some (x,k)):l.lookup x=some k:=V0 nd (List.mem_of_getElem? h)
theorem FdOk.env{F:Fn}{fd:FuncData}{body:List Stmt}{ps:List Str}(h:FdOk C F fd body ps)(L a:Addr):Yd C (tnC C fd.scope.names) (callEnv fd L a):=
 ⟨h.kind,h.glo,h.blt,fun j x k e=>⟨U9 h.nd e,h.dbg _ (List.mem_of_getElem? e)⟩,fun i j x k k'=>Jb h.nd,rfl,rfl,rfl,rfl,rfl⟩
theorem Mx{ps:List Str}{xs:List Value}{j:Nat}{p:Str}{x:Value}(nd:ps.Nodup)(hl:xs.length=ps.length)(h1:ps[j]? =some p)(h2:xs[j]? =some x):(ps.zip xs).reverse.lookup p=some x:=by
 refine V0 ?_ (List.mem_reverse.mpr (List.mem_of_getElem? (List.getElem?_zip_eq_some.mpr ⟨h1,h2⟩)));rw[List.map_reverse,List.map_fst_zip (Nat.le_of_eq hl.symm)];exact(List.reverse_perm _).nodup_iff.mpr nd
theorem dropTo_get:∀{k:Nat} {l:List O} {n i:Nat},(Ub l k n)[i]? =l[k + i]?
 |0,l,n,i=>by rw[Nat.zero_add];cases l <;> rfl
 |k + 1,[],n,i=>rfl
 |k + 1,_::r,n,i=>(dropTo_get (k:=k) (l:=r) (n:=n)).trans (by rw[Nat.succ_add,List.getElem?_cons_succ])
def cut(σ σ1:St):St:={σ1 with next:=σ.next,tmp:=Ub σ1.tmp (σ1.next - σ.next) 0}
theorem Zp0{a b n:Nat}(h:a≤b)(k:n < a):b - a + (a - 1 - n)=b - 1 - n:=by rw[Nat.sub_sub,Nat.sub_sub];exact Nat.sub_add_sub_cancel h (Nat.add_comm n 1 ▸ k)
theorem Pd{old:Nat→Option O}{σ σ1:St}{n:Nat}{o:O}(hb:σ1.base≤σ.next)(hn:σ.next≤σ1.next)(e:Zj old (cut σ σ1) n=some o):n < σ.next∧Zj old σ1 n=some o∧(¬n < σ1.base→o∈(cut σ σ1).tmp):=by
 by_cases h1:n < σ1.base
 ·exact⟨Nat.lt_of_lt_of_le h1 hb,(Vj (σ:=cut σ σ1) (σ':=σ1) rfl h1).trans e,fun h=>absurd h1 h⟩
 ·by_cases h2:n < σ.next
  ·have e:=(Xe (σ:=cut σ σ1) (old:=old) h1 h2).symm.trans e
   exact⟨h2,(Xe h1 (Nat.lt_of_lt_of_le h2 hn)).trans (Zp0 hn h2 ▸ dropTo_get.symm.trans e),fun _=>List.mem_of_getElem? e⟩
  ·exact nn ((Xs (σ:=cut σ σ1) (old:=old) h1 h2).symm.trans e)
theorem Ve{σ σ1:St}(hb:σ1.base≤σ.next)(hn:σ.next≤σ1.next){l:Lc}(d:Z2 C (cut σ σ1) l):Z2 C σ1 l:=by
 cases l with
 |id n=>exact d.elim fun o d=>⟨o,(Pd hb hn d.1).2.1,d.2⟩
 |idd n=>exact d.elim fun c d=>d.elim fun vs d=>⟨c,vs,(Pd hb hn d).2.1⟩
 |_=>exact d
theorem Ry{σ σ1:St}{l:Lc}(y:X6 (cut σ σ1) l):X6 σ1 l:=by cases l <;> exact y
theorem Do{σ σ1:St}(h:∀l,Dom σ l→Dom σ1 l)(l:Lc)(d:Dom σ l):Dom (cut σ σ1) l:=by
 cases l with
 |id n=>exact d
 |idd n=>exact d
 |_=>exact h _ d
theorem Al{σ σ1:St}{ρ ρ1:Rho}{s s1:Shared}{n:Nat}{o:O}(r0:R C σ ρ s.heap)(k:Ext C σ ρ s σ1 ρ1 s1)(h:n < σ.base)(e:C.get σ n=some o):RepO C σ1 ρ1 s1.heap n o:=by
 by_cases od:o= .dead
 ·rw[od];trivial
 ·exact(r0.rep n o e).stays k.stays k.dom k.rho (r0.at e)
   (fun x=>k.stays.get _ x fun z=>z.elim fun l z=>Nat.not_lt.mpr (show X6 σ (.id n) from r0.inj l (.id n) z.1 ⟨o,e,od⟩ z.2.2 ▸ z.2.1) h)
   (fun hi x=>k.stays.get _ x fun z=>z.elim fun l z=>hi.elim fun c hi=>hi.elim fun vs hi=>Nat.not_lt.mpr (show X6 σ (.idd n) from r0.inj l (.idd n) z.1 ⟨c,vs,hi ▸ e⟩ z.2.2 ▸ z.2.1) h)
theorem Zeh{σ σ1:St}{ρ ρ1:Rho}{s s1:Shared}(hall:(cut σ σ1).tmp.all Ft=true)(r0:R C σ ρ s.heap)(r:R C σ1 ρ1 s1.heap)(k:Ext C σ ρ s σ1 ρ1 s1)(hn:σ.next≤σ1.next):
 R C (cut σ σ1) ρ1 s1.heap∧Ext C σ ρ s (cut σ σ1) ρ1 s1∧Stays s1.heap (Own C σ1 ρ1) s1.heap (Own C (cut σ σ1) ρ1):=by
 have hb:σ1.base≤σ.next:=k.base ▸ r0.old;have st:Stays s1.heap (Own C σ1 ρ1) s1.heap (Own C (cut σ σ1) ρ1):=⟨fun b o _ g=>g,fun b o nb _ z=>nb (z.elim fun l z=>⟨l,Ve hb hn z.1,Ry z.2.1,z.2.2⟩)⟩;have k2:Ext C σ ρ s (cut σ σ1) ρ1 s1:=⟨k.stays.trans st,Do k.dom,k.rho,k.base,k.rest⟩;refine⟨⟨r.fr,fun n o e=>have z:=Pd hb hn e;?_,fun w e=>(r.rw w e).stays st (fun _ _=>rfl) e rfl rfl (fun l _ _ _ x g=>g),fun l l' d1 d2=>r.inj l l' (Ve hb hn d1) (Ve hb hn d2),fun l d1 d2=>r.far l (Ve hb hn d1) (Ry d2),hb,r.sta,r.sysK,fun l d1=>r.sys l (Ve hb hn d1)⟩,k2,st⟩;by_cases hold:n < σ1.base
 ·exact Al r0 k2 (k.base ▸ hold) ((Vj (σ:=σ1) (σ':=σ) k.base.symm hold).trans z.2.1)
 ·have hd:=List.all_eq_true.mp hall o (z.2.2 hold)
  cases o with
  |dl l=>exact(r.rep n _ z.2.1).elim fun items z=>⟨items,z.1,RdDs.stays st z.2⟩
  |_=>exact nf hd
theorem Hs{σ σ1:St}{ρ ρ1:Rho}{s s1:Shared}{md:Nat}{v v':V}{σ':St}{x:Value}(e:Bb md σ σ1 v=some (v',σ'))(r0:R C σ ρ s.heap)(r:R C σ1 ρ1 s1.heap)(k:Ext C σ ρ s σ1 ρ1 s1)(hn:σ.next≤σ1.next)(vx:VR C σ1 ρ1 s1.heap v x):
 R C σ' ρ1 s1.heap∧Ext C σ ρ s σ' ρ1 s1∧VR C σ' ρ1 s1.heap v' x:=
 Vc e (fun _ e=>Rh (M:=fun v=>VR C σ1 ρ1 s1.heap v x→R C σ' ρ1 s1.heap∧Ext C σ ρ s σ' ρ1 s1∧VR C σ' ρ1 s1.heap v' x) e (fun d e vx=>Zl e fun hall e=>Z0 (M:=fun v' σ'=>R C σ' ρ1 s1.heap∧Ext C σ ρ s σ' ρ1 s1∧VR C σ' ρ1 s1.heap v' x) e
  (have z:=Zeh hall r0 r k hn;⟨z.1,z.2.1,RdD.stays z.2.2 vx⟩)) vx) fun _ e=>Z0 (M:=fun v' σ'=>R C σ' ρ1 s1.heap∧Ext C σ ρ s σ' ρ1 s1∧VR C σ' ρ1 s1.heap v' x) e ⟨r,k,vx⟩
theorem Bf{args:List V}{k j:Nat}{v:V}(e:(args.map some++List.replicate k none)[j]? =some (some v)):args[j]? =some v:=by
 rcases Nat.lt_or_ge j (args.map some).length with h |h
 ·rw[List.getElem?_append_left h,List.getElem?_map] at e
  exact Mo e fun u h1 h2=>sj h2 ▸ h1
 ·rw[List.getElem?_append_right h] at e
  exact nn (List.eq_of_mem_replicate (List.mem_of_getElem? e)).symm
theorem rc1{a d:Nat}(h:a + 3 * (d + 1) + 8 < 1000):a + 1 + 3 * d + 10 < 1000:=by omega
theorem rc2{a d:Nat}(h:a + 20 * (d + 1) + 290 < 9900):a + 3 + 20 * d + 300 < 9900:=by omega
theorem H7{ps:List Str}{ns:List (Str×NameKind)}(h:∀(i:Nat) (p:Str),ps[i]? =some p→ns[i]? =some (p,.local))(nd:(ns.map (·.1)).Nodup):ps.Nodup:=
 List.nodup_iff_pairwise_ne.mpr (List.pairwise_iff_getElem.mpr fun i j hi hj hij z=>Nat.ne_of_lt hij (Jb nd (h i _ (List.getElem?_eq_getElem hi)) (z ▸ h j _ (List.getElem?_eq_getElem hj))))
theorem Bx{σ σ1:St}(h:∀l,Dom σ l→Dom σ1 l):σ.next≤σ1.next:=by
 cases z:σ.next with
 |zero=>exact Nat.zero_le _
 |succ n=>exact h (.id n) (Nat.le_of_eq z.symm)
@[elab_as_elim] theorem FlR.use {σ:St} {ρ:Rho} {h:Heap} {fl:Fl} {f:Flow} (e:FlR C σ ρ h fl f) {M:Fl→Flow→Prop} (k1:M .next .next) (k2:∀v x,VR C σ ρ h v x→M (.ret v) (.ret x)):M fl f:=by
  cases fl with
  |next=>exact(show f= .next from e) ▸ k1
  |ret v=>exact Exists.elim e fun x z=>z.1 ▸ k2 v x z.2
theorem Uq(X:Vr C mg mb){d f:Nat}{F:Fn}{cf:Nat→List V→St→Res}(hf:E2 C f F)(hcf:SoundCF C d cf){vs:List V}{σ σ':St}{v:V}(e:Rd C.T cf F vs σ=some (v,σ')){A:Around}{s:Shared}{ρ:Rho}(xs:List Value)(B:Result→Shared→Prop)(rm:RoomC A (d + 1))
 (r:R C σ ρ s.heap) (vr:VRs C σ ρ s.heap vs xs) (q:∀ρ' s' x,R C σ' ρ' s'.heap→Ext C σ ρ s σ' ρ' s'→VR C σ' ρ' s'.heap v x→B (.ok (.ret x)) s'):codeAny (model C.prog C.wld) A (.call (.ref (C.fa f)) ⟨xs,[]⟩) B s:=
 hf.elim fun o g=>g.elim fun fd g=>g.elim fun body g=>g.elim fun ps g=>Zl e fun el e=>Yj0 e fun fl lo σ1 ev lv=>by
 have H:=g.2.2;have hl:xs.length=ps.length:=(vr.len.trans (Nat.eq_of_beq_eq_true el)).trans H.len.symm;have ndp:=H7 H.at_ H.nd
 refine codeAny_call_def (binds:=ps.zip xs) (Nat.lt_of_le_of_lt (Nat.le_trans (Nat.le_add_right _ _) (Nat.le_add_right _ _)) rm.2.1) (r.fr _ _ g.1) g.2.1 (X.lim _ r.fr) (codeRec_of r.fr H.code) H.bodyEq (BindsTo.of_eq (Un H.p1 H.p2 H.p3 H.p4 H.p5 H.p6 ndp hl)) H.cell
  (fun x hx=>(List.mem_iff_getElem?.mp (List.of_mem_zip (a:=x.1) (b:=x.2) hx).1).elim fun i hi=>U9 H.nd (H.at_ i _ hi)) (fun h₀ hns keep=> ?_) H.co H.gen H.kind
 have N:=H.env s.heap.objs.size (C.fa f);have hnew:=Zv s.heap;have F0:FrS C σ ρ h₀ (callEnv fd s.heap.objs.size (C.fa f)) (tnC C fd.scope.names) (vs.map some++List.replicate (F.nl - F.np) none):=
  ⟨⟨_,hns,fun j u hj=>(vr.get (Bf hj)).elim fun x z=>
    have hp:=List.getElem?_eq_getElem (l:=ps) (hl ▸ (List.getElem?_eq_some_iff.mp z.1).1)
    ⟨_,_,x,H.at_ j _ hp,Mx ndp hl hp z.1,z.2.ext (s':={s with heap:=h₀}) (.grow keep rfl)⟩⟩,r.fresh hnew,fun l dl z=>(r.there dl).elim fun y hy=>by rw[show ρ l=s.heap.objs.size from z,hnew] at hy;exact nn hy,Yb r hnew,r.old⟩
 refine Ia (Z:=⟨C,tnC C fd.scope.names,callEnv fd s.heap.objs.size (C.fa f),d,mg,mb⟩) ⟨X,N⟩ hcf F.md H.ok _ σ fl lo σ1 ev _ {s with heap:=h₀,toks:=s.toks + (ps.zip xs).length} ρ _ _ ⟨⟨rm.1,rc1 rm.2.1,rc2 rm.2.2⟩,r.grow keep,F0⟩ fun ρ1 s1 fw P1 k1 fr=> ?_;have nL:∀{b:Addr} {o},s.heap.get? b=some o→b≠s.heap.objs.size:=fun g z=>by rw[z,hnew] at g;exact nn g
 have k2:Ext C σ ρ s σ1 ρ1 s1:=⟨⟨fun b o nb g=>k1.get b o (nL g) nb (keep _ _ g),fun b o nb g=>k1.own b o (nL g) nb (keep _ _ g)⟩,k1.dom,k1.rho,k1.base,k1.rest⟩;have fin:∀y,VR C σ1 ρ1 s1.heap (flV fl) y→B (.ok (.ret y)) s1:=fun y vy=>have z:=Hs lv r P1.r k2 (Bx k2.dom) vy;q _ _ _ z.1 z.2.1 z.2.2;revert fin;exact fr.use (fun fin=>fin .none rfl) fun u x vx fin=>fin x vx
theorem Vp(X:Vr C mg mb){fns:Nat→Option Fn}(hf:∀f F,fns f=some F→E2 C f F):∀d,SoundCF C d (run C.T fns d)
 |0=>fun f vs σ v σ' e=>nn e
 |d + 1=>fun f vs σ v σ' e A s ρ xs B rm r vr q=>Za (x:=fns f) e fun F hF e=>Uq X (hf f F hF) (Vp X hf d) e xs B rm r vr q
end
end Mine
namespace Mine
open PySem PySem.W PySem.Calls PyProof.Rows
set_option genInjectivity false
noncomputable def faL:List Nat:=[0,61,68,75,89,96,103,110,117,124,131,138,145,152,159,166,173,180,194,215,236,257,278,292,299,306,313,320,327,334,341,348,355,362,369,376,391,398,405,412,419,426,433,440,447,454,461,468,475,482,489,496,503,510,517,524,531,538,545,552,559,566,573,580,587,594,599,604,611,616,623,628,635,642,649,656,663,670,677,684,689,696,703,710,717,724,731,738,745,752]
noncomputable def clL:List Nat:=[78,197,218,239,260,281]
noncomputable def Ul (l:List Str) (n:Nat):Str:=(l[n]?).getD ""
noncomputable def Hd (f:Nat):Addr:=(faL[f]?).getD 0
noncomputable def Oq (c:Nat):Addr:=(clL[c]?).getD 0
noncomputable def Zg3 (f:Nat):Bool:=Nat.blt f 90&&Yho f
noncomputable def Wn (f:Nat):Option Fn:=gd (Nat.blt f 90) (fns f)
noncomputable def Zft (g:Nat):Option V:=gd (Nat.blt g 200) (Zfu g)
noncomputable def Zr6 (n:Nat):Option Addr:=bp (Nat.beq n 0) (some 47) (gd (Nat.beq n 1) (some 377))
noncomputable def Tk (fx:List Fact) (old:Nat→Option O):Tb:=⟨fx,old,Wm,Zft,Pb,Dk⟩
noncomputable def CK (w:World) (fx:List Fact) (old:Nat→Option O) (val:Int→Int) (slack:Nat):Cx:=
 ⟨Tk fx old,val,KF w.params,Ul Z9,Oq,PW,w,slack,Zr6,Ul T8,Ul Ox,Ul Rv,Hd,Zg3⟩
theorem M9{α:Type}{x:Option α}{k:α→Bool}(h:kSo x k=true){P:Prop}(f:∀a,x=some a→k a=true→P):P:=by
 cases x with
 |none=>exact nf h
 |some a=>exact f a rfl h
noncomputable def Md (p:Nat→Bool) (a n:Nat):Bool:=Nat.rec true (fun i ih=>p (a + i)&&ih) n
theorem Q8{p:Nat→Bool}{a:Nat}:∀{n i:Nat},Md p a n=true→i < n→p (a + i)=true
 |0,i,_,h=>absurd h (Nat.not_lt_zero i)
 |n + 1,i,e,h=>(Nat.lt_or_eq_of_le (Nat.le_of_lt_succ h)).elim (fun h=>Q8 (a2 (a:=p (a + n)) e).2 h) fun h=>h ▸ (a2 e).1
theorem T3{p:Nat→Bool}{n i:Nat}(e:Md p 0 n=true)(h:i < n):p i=true:=Nat.zero_add i ▸ Q8 e h
theorem Oe{p:Nat→Bool}{a n:Nat}{i:Nat}(e:Md p a n=true)(h:a≤i)(k:a + n≤i→p i=true):p i=true:=
 (Nat.lt_or_ge i (a + n)).elim (fun q=>(Nat.exists_eq_add_of_le h).elim fun j z=>z ▸ Q8 e (Nat.lt_of_add_lt_add_left (z ▸ q))) k
noncomputable def kFd (d:Data) (k:FuncData→Bool):Bool:=match d with
 |.func fd=>k fd
 |_=>false
noncomputable def kDc (d:Data) (k:Array DictEntry→Bool):Bool:=match d with
 |.dict es _=>k es
 |_=>false
noncomputable def dEs {α:Type} (d:Data) (k:Array DictEntry→Option α):Option α:=match d with
 |.dict es _=>k es
 |_=>none
noncomputable def kBd (d:FuncBody) (k:List Stmt→Bool):Bool:=match d with
 |.stmts b=>k b
 |_=>false
noncomputable def kRf (d:Value) (k:Addr→Bool):Bool:=match d with
 |.ref b=>k b
 |_=>false
noncomputable def kVi (d:Value) (k:Int→Bool):Bool:=match d with
 |.int b _=>k b
 |_=>false
noncomputable def kVs (d:Value) (k:Str→Bool):Bool:=match d with
 |.str b _=>k b
 |_=>false
noncomputable def kVn (d:Value):Bool:=match d with
 |.none=>true
 |_=>false
noncomputable def kTy (d:Value) (k:String→Bool):Bool:=match d with
 |.type b=>k b
 |_=>false
theorem Zge{d:Data}{k:FuncData→Bool}(h:kFd d k=true){P:Prop}(f:∀fd,d= .func fd→k fd=true→P):P:=by
 cases d with
 |func fd=>exact f fd rfl h
 |_=>exact nf h
theorem Zgc{d:Data}{k:Array DictEntry→Bool}(h:kDc d k=true){P:Prop}(f:∀es n,d= .dict es n→k es=true→P):P:=by
 cases d with
 |dict es n=>exact f es n rfl h
 |_=>exact nf h
theorem Zsr{d:FuncBody}{k:List Stmt→Bool}(h:kBd d k=true){P:Prop}(f:∀b,d= .stmts b→k b=true→P):P:=by
 cases d with
 |stmts b=>exact f b rfl h
 |_=>exact nf h
@[elab_as_elim] theorem Zgj {d:Value} {k:Addr→Bool} (h:kRf d k=true) {M:Value→Prop} (f:∀b,k b=true→M (.ref b)):M d:=by
  cases d with
  |ref b=>exact f b h
  |_=>exact nf h
@[elab_as_elim] theorem C7 {d:Value} {k:Int→Bool} (h:kVi d k=true) {M:Value→Prop} (f:∀b t,k b=true→M (.int b t)):M d:=by
  cases d with
  |int b t=>exact f b t h
  |_=>exact nf h
@[elab_as_elim] theorem Zgl {d:Value} {k:Str→Bool} (h:kVs d k=true) {M:Value→Prop} (f:∀b t,k b=true→M (.str b t)):M d:=by
  cases d with
  |str b t=>exact f b t h
  |_=>exact nf h
theorem Zst{d:Value}(h:kVn d=true):d= .none:=by
 cases d with
 |none=>rfl
 |_=>exact nf h
@[elab_as_elim] theorem Zss {d:Value} {k:String→Bool} (h:kTy d k=true) {M:Value→Prop} (f:∀b,k b=true→M (.type b)):M d:=by
  cases d with
  |type b=>exact f b h
  |_=>exact nf h
noncomputable def Uf (K:Frag) (a:Addr) (x:Str):Option Value:=ob (K.lookup a) fun o=>dEs o.data fun es=>(es.toList.find? (·.key.isStr x)).map (·.val)
noncomputable def Zqn (K:Frag) (a:Addr):Bool:=kSo (K.lookup a) fun o=>kDc o.data fun es=>es.toList.all fun e=>kVs e.key fun _=>true
theorem Bz{K:Frag}{a:Addr}{h:Heap}(X:K.In h)(e:Zqn K a=true):h.Ns a (Uf K a):=M9 e fun o ho e=>Zgc e fun es n hd e=>
 ⟨o,es,n,X _ _ ho,hd,fun x hx=>Zgl (M:=fun v=>∃y t,v= .str y t) (List.all_eq_true.mp e x (Array.mem_toList_iff.mpr hx)) fun y t _=>⟨y,t,rfl⟩,fun name=>by
   unfold Uf nsFind findBy;rw[Mp ho,hd,← Array.find?_toList]
   rfl⟩
noncomputable def Zy4 (l:List Str):List (Str×NameKind)→Bool:=List.rec (fun _=>true) (fun p _ ih l=>Wc l fun x r=>Zs x.1 p&&(Hp x.2 .local&&ih r)) l
noncomputable def H8 (x:Str) (l:List (Str×NameKind)):Bool:=List.rec true (fun y _ ih=> !Zs x y.1&&ih) l
noncomputable def ndB (l:List (Str×NameKind)):Bool:=List.rec true (fun y r ih=>H8 y.1 r&&ih) l
noncomputable def Zsc (K:Frag) (F:Fn) (fd:FuncData):Bool:=kBd fd.body fun b=>fd.params.posonlyargs.isEmpty&&(fd.params.kwonlyargs.isEmpty&&(fd.params.vararg.isNone&&(fd.params.kwarg.isNone&&(kVn fd.defaults&&(Nat.beq fd.params.args.length F.np&&
 (Zy4 (fd.params.args.map (·.arg)) fd.scope.names&&(Rm ⟨fd.scope.names,Ul T8,Ul Ox,Ul Rv,Ul Z9,Zg3⟩ F.body b&&(codeIn K fd.code fd.qualname&&(!fd.scope.isCoroutine&&(!fd.scope.isGenerator&&(decide (fd.scope.kind= .function)&&
 (Nat.beq fd.globals 3&&(Nat.beq fd.builtins 0&&(ndB fd.scope.names&&fd.scope.names.all fun x=> !Hp x.2 .cell&& !(x.1 == ("__debug__":Str))))))))))))))))
noncomputable def Zf9 (K:Frag) (f:Nat) (F:Fn):Bool:=kSo (K.lookup (Hd f)) fun o=>kFd o.data (Zsc K F)
theorem Nm:∀{ps:List Str} {ns:List (Str×NameKind)},Zy4 ps ns=true→∀(i:Nat) (p:Str),ps[i]? =some p→ns[i]? =some (p,.local)
 | [],_,_,i,p,h=>nn h
 |q::ps,ns,e,i,p,h=>Z6 (k:=fun x r=>Zs x.1 q&&(Hp x.2 .local&&Zy4 ps r)) (M:=fun ns=>ns[i]? =some (p,.local)) e fun x r e=>Xy e fun e1 e2 e3=>by
  cases i with
  |zero=>exact congrArg some (Prod.ext ((strB_iff.mp e1).trans (sj h)) (of_decide_eq_true e2))
  |succ i=>exact Nm e3 i p h
theorem Nd{x:Str}:∀{l:List (Str×NameKind)},H8 x l=true→x ∉ l.map (·.1)
 | [],_=>nofun
 |y::r,e=>fun z=>(List.mem_cons.mp z).elim (fun z=>nf ((nb (a2 e).1).symm.trans (strB_iff.mpr z))) (Nd (a2 (a:= !Zs x y.1) e).2)
theorem O9:∀{l:List (Str×NameKind)},ndB l=true→(l.map (·.1)).Nodup
 | [],_=>List.nodup_nil
 |y::r,e=>List.nodup_cons.mpr ⟨Nd (a2 (a:=H8 y.1 r) e).1,O9 (a2 (a:=H8 y.1 r) e).2⟩
theorem He{w:World}{fx:List Fact}{old:Nat→Option O}{val:Int→Int}{slack:Nat}{f:Nat}{F:Fn}(e:Zf9 (KF w.params) f F=true):E2 (CK w fx old val slack) f F:=
 M9 e fun o ho e=>Zge e fun fd hd e=>Zsr e fun b hb e=>T2 e fun p1 p3 p4 p5 e=>T2 e fun p6 len pre ok e=>T2 e fun code co gen kind e=>T1 e fun glo blt nd rest=>
 ⟨o,fd,b,_,ho,hd,⟨hb,List.isEmpty_iff.mp p1,rfl,List.isEmpty_iff.mp p3,Option.isNone_iff_eq_none.mp p4,Option.isNone_iff_eq_none.mp p5,Zst p6,(List.length_map ..).trans (Nat.eq_of_beq_eq_true len),Nm pre,ok,code,nb co,nb gen,of_decide_eq_true kind,Nat.eq_of_beq_eq_true glo,Nat.eq_of_beq_eq_true blt,O9 nd,
   fun x hx z=>of_decide_eq_false (nb (a2 (List.all_eq_true.mp rest x hx)).1) z,fun x hx=>nb (a2 (List.all_eq_true.mp rest x hx)).2⟩⟩
set_option genInjectivity true
noncomputable def fnC (K:Frag) (f:Nat):Bool:=Option.rec true (fun F=>Zf9 K f F) (fns f)
theorem Yh6(P:Params):Md (fnC (KF P)) 0 20=true:=by kernel_rfl
theorem Yh7(P:Params):Md (fnC (KF P)) 20 20=true:=by kernel_rfl
theorem Yh8(P:Params):Md (fnC (KF P)) 40 25=true:=by kernel_rfl
theorem Yh9(P:Params):Md (fnC (KF P)) 65 25=true:=by kernel_rfl
theorem Zqd(w:World)(fx:List Fact)(old:Nat→Option O)(val:Int→Int)(slack:Nat)(f:Nat)(F:Fn)(e:Wn f=some F):E2 (CK w fx old val slack) f F:=Zl e fun h1 h2=>He (by
 have:fnC (KF w.params) f=true:=Oe (Yh6 _) (Nat.zero_le _) fun h=>Oe (Yh7 _) h fun h=>Oe (Yh8 _) h fun h=>Oe (Yh9 _) h fun h=>absurd (Zz h1) (Nat.not_lt.mpr h);unfold fnC at this;rw[h2] at this
 exact this)
set_option genInjectivity false
theorem Yii(P:Params):Zqn (KF P) 3=true:=by kernel_rfl
theorem Yih(P:Params):Zqn (KF P) 0=true:=by kernel_rfl
theorem Yao(P:Params):(Zqn (KF P) 2&&(Uf (KF P) 2 "sys.recursionlimit").isNone)=true:=by kernel_rfl
theorem Yj7(P:Params):((KF P).lookup sysModules).isSome=true:=by kernel_rfl
noncomputable def gvD (x:Option Value) (d:D):Bool:=match d with
 |.int i=>Yo i&&kSo x fun v=>kVi v fun j=>decide (j=i)
 |.str y=>kSo x fun v=>kVs v fun z=>Zs z y
 |_=>false
noncomputable def gvL (x:Option Value) (l:Lc):Bool:=match l with
 |.id n=>kSo (Zr6 n) fun a=>kSo x fun v=>kRf v fun b=>Nat.beq a b
 |_=>false
noncomputable def Zfs (K:Frag) (g:Nat):Bool:=Option.rec true (fun v=>V.rec (gvD (Uf K 3 (Ul T8 g))) (gvL (Uf K 3 (Ul T8 g))) v) (Zfu g)
theorem gv_(P:Params):Md (Zfs (KF P)) 0 200=true:=by kernel_rfl
noncomputable def Ztd (K:Frag) (x:Str) (a:Addr):Bool:=kSo (Uf K 3 x) fun v=>kRf v fun b=>Nat.beq b a
noncomputable def Zsd (K:Frag) (f:Nat):Bool:=kSo (K.lookup (Hd f)) fun o=>kTy o.cls (fun t=>t == "function")&&kFd o.data fun _=>true
noncomputable def Zf6 (K:Frag) (f:Nat):Bool:=bp (Zg3 f) (Ztd K (Ul Ox f) (Hd f)&&Zsd K f) true
theorem fg_(P:Params):Md (Zf6 (KF P)) 0 90=true:=by kernel_rfl
noncomputable def Zec (K:Frag) (c:Nat):Bool:=
 (findIn K (.ref (Oq c)) "__getattribute__" == some (some (.builtin "object.__getattribute__")))&&((findIn K (.ref (Oq c)) "__setattr__" == some (some (.builtin "object.__setattr__")))&&
 ((findIn K (.ref (Oq c)) "__getattr__" == some none)&&((Wm c).all (fun a=>findIn K (.ref (Oq c)) (Ul Z9 a) == some none)&&
 ((Wm c).all (fun a=>(Wm c).all fun b=>Nat.beq a b || !Zs (Ul Z9 a) (Ul Z9 b))&&(plainOver K (Oq c)&&(makesIn K (Oq c)&&(keepIn K (.ref (Oq c))&&
 ((findIn K (.ref (Oq c)) "__init__" == some (some (.ref (Hd (Pb c)))))&&((typeIn K (.ref (Hd (Pb c))) == some (.type "function"))&&(kSo (clsIn K (Oq c)) (·.hasDict)&&(Ztd K (Ul Rv c) (Oq c)&&Nat.ble (Wm c).length 100)))))))))))
theorem Yhh(P:Params):Md (Zec (KF P)) 0 6=true:=by kernel_rfl
theorem bl_(P:Params)(b:BI):Uf (KF P) 3 (Y9 b)=none∧Uf (KF P) 0 (Y9 b)=some (E7 b):=by
 cases b
 ·exact⟨by kernel_rfl,by kernel_rfl⟩
 ·exact⟨by kernel_rfl,by kernel_rfl⟩
 ·exact⟨by kernel_rfl,by kernel_rfl⟩
 ·exact⟨by kernel_rfl,by kernel_rfl⟩
 ·exact⟨by kernel_rfl,by kernel_rfl⟩
noncomputable def Pq (K:Frag) (a f:Nat):Bool:=(findIn K (.ref (Oq 0)) (Ul Z9 a) == some (some (.ref (Hd f))))&&((typeIn K (.ref (Hd f)) == some (.type "function"))&&(Zsd K f&&(Wm 0).all fun b=> !Zs (Ul Z9 b) (Ul Z9 a)))
theorem m3_(P:Params):Pq (KF P) 48 3=true:=by kernel_rfl
theorem m2_(P:Params):Pq (KF P) 49 2=true:=by kernel_rfl
section
variable{w:World}{fx:List Fact}{old:Nat→Option O}{val:Int→Int}{slack:Nat}
theorem Jl{K:Frag}{x:Str}{a:Addr}(h:Ztd K x a=true):Uf K 3 x=some (.ref a):=M9 h fun v e h=>Zgj (M:=fun v=>Uf K 3 x=some v→Uf K 3 x=some (.ref a)) h (fun b h e=>Nat.eq_of_beq_eq_true h ▸ e) e
theorem L8{K:Frag}{f:Nat}(e:Zsd K f=true):∃o fd,K.lookup (Hd f)=some o∧o.data= .func fd:=M9 e fun o ho e=>Zge (a2 e).2 fun fd hd _=>⟨o,fd,ho,hd⟩
theorem Ygz{x:Str}:Zs x x=true:=strB_iff.mpr rfl
theorem Lq{c:Nat}(h:c < 6):Zdi (CK w fx old val slack) c∧Uf (KF w.params) 3 (Ul Rv c)=some (.ref (Oq c))∧findIn (KF w.params) (.ref (Oq c)) "__getattr__"=some none:=
 T2 (T3 (Yhh w.params) h) fun e1 e2 e3 e4 e=>T2 e fun e5 e6 e7 e8 e=>T2 e fun e9 e10 e11 e12 e13=>
 ⟨⟨M9 e11 fun cd q z=>⟨cd,q,z⟩,eq_of_beq e1,eq_of_beq e2,fun a ha=>eq_of_beq (List.all_eq_true.mp e4 a ha),
   fun a ha b hb z=>((Bool.or_eq_true _ _).mp (List.all_eq_true.mp (List.all_eq_true.mp e5 a ha) b hb)).elim Nat.eq_of_beq_eq_true fun q=>nf ((nb q).symm.trans (strB_iff.mpr z)),Nat.le_of_ble_eq_true e13,e6,e7,e8,eq_of_beq e9,eq_of_beq e10,
   M9 e11 fun cd q z=>(congrArg (Option.any fun d:ClassData=>d.hasDict) q).trans z⟩,Jl e12,eq_of_beq e3⟩
theorem K7{a f:Nat}(h:Pq (KF w.params) a f=true):G8 (CK w fx old val slack) 0 a f:=T1 h fun h1 h2 h3 h4=>
 have c:=Lq (w:=w) (fx:=fx) (old:=old) (val:=val) (slack:=slack) (c:=0) (by decide)
 ⟨c.1.ga,c.2.2,eq_of_beq h1,eq_of_beq h2,L8 h3,fun b hb z=>nf ((nb (List.all_eq_true.mp h4 b hb)).symm.trans (strB_iff.mpr z))⟩
theorem Zsg{g:Nat}{v:V}(h:Zft g=some v):∃x,Uf (KF w.params) 3 (Ul T8 g)=some x∧match(motive:=V→Prop) v with
 |.dat (.int i)=>Yo i=true∧∃t,x= .int i t
 |.dat (.str y)=>∃t,x= .str y t
 |.loc (.id n)=>∃a,Zr6 n=some a∧x= .ref a
 |_=>False:=Zl h fun hlt h=>by
 have e:=T3 (gv_ w.params) (Zz hlt);unfold Zfs at e;rw[h] at e;cases v with
 |dat d=>
  cases d with
  |int i=>exact M9 (a2 e).2 fun x hx e2=>⟨x,hx,(a2 e).1,C7 (M:=fun v=>∃t,v= .int i t) e2 fun j t z=>⟨t,by rw[of_decide_eq_true z]⟩⟩
  |str y=>exact M9 e fun x hx e2=>⟨x,hx,Zgl (M:=fun v=>∃t,v= .str y t) e2 fun j t z=>⟨t,by rw[strB_iff.mp z]⟩⟩
  |_=>exact nf e
 |loc l=>
  cases l with
  |id n=>exact M9 (x:=Zr6 n) e fun a ha e=>M9 e fun x hx e2=>⟨x,hx,a,ha,Zgj (M:=fun v=>v= .ref a) e2 fun b z=>by rw[Nat.eq_of_beq_eq_true z]⟩
  |_=>exact nf e
theorem Zei(h0:val 0=0)(hf:∀f∈fx,f.Holds (vC val))(hs:slack≤100000):Vr (CK w fx old val slack) (Uf (KF w.params) 3) (Uf (KF w.params) 0) where
 v0:=h0
 fx:=hf
 slack:=hs
 nsG:=fun h X=>Bz X (Yii _)
 nsB:=fun h X=>Bz X (Yih _)
 lim:=fun h X=>⟨_,Bz X (a2 (Yao w.params)).1,Option.isNone_iff_eq_none.mp (a2 (Yao w.params)).2⟩
 cls:=fun c h=>(Lq h).1
 fg:=fun f h=>by
  have e:=T3 (fg_ w.params) (Zz (a2 h).1);unfold Zf6 at e;rw[show Zg3 f=true from h] at e;exact⟨Jl (a2 e).1,L8 (a2 e).2⟩
 bl:=fun b=>bl_ _ b
 att:=fun c h=>(Nat.lt_or_ge c 6).elim id fun q=>absurd (show(Lf[c]?).getD []=[] by rw[List.getElem?_eq_none q];rfl) h
 cg:=fun c h=>(Lq (w:=w) (fx:=fx) (old:=old) (val:=val) (slack:=slack) h).2.1
 meth:=fun c a f h=>Zl (b:=Nat.beq c 0) h fun hc h=>by
  rw[Nat.eq_of_beq_eq_true hc];exact Vc h (fun q h=>by rw[Nat.eq_of_beq_eq_true q,← sj h];exact K7 (m3_ _)) fun _ h=>Zl h fun q h=>by rw[Nat.eq_of_beq_eq_true q,← sj h];exact K7 (m2_ _)
 gv:=fun g v h=>Zsg h
end
end Mine
namespace Mine
open PySem PySem.W
set_option genInjectivity false
set_option genSizeOf false
inductive Ins where
 |ldarg (x:Nat) |ldfld (k:Int) |ldloc (x:Nat) |ldc (i:Int) |add |stfld (k:Int) |ldelem |stelem |stloc (x:Nat) |ret
 |br (t:Nat) |conv |ldlen |ldstr |box |brt (t:Nat) |brf (t:Nat) |newarr |throw |octor |grow |newenum |newobj (v:Int)
 |sub |mul |equ |blt (t:Nat) |ble (t:Nat) |beq (t:Nat) |bltu (t:Nat) |bleu (t:Nat)
abbrev VR':=Option (D×Wd)
abbrev VK:=Nat→List D→List D→Wd→VR'
noncomputable def Xf (f:VK):VK:=fun n st cl w=>Nat.rec none (fun m _=>f m st cl w) n
section
variable{α β:Type}
noncomputable def c1 (l:List α) (f:α→List α→Option β):Option β:=List.rec none (fun a r _=>f a r) l
noncomputable def c0 (l:List α) (x:Option β):Option β:=List.rec x (fun _ _ _=>none) l
@[elab_as_elim] theorem Wu {l:List α} {f:α→List α→Option β} {r:β} (h:c1 l f=some r) {M:List α→Prop} (k:∀a t,f a t=some r→M (a::t)):M l:=by
  cases l with
  |nil=>exact nn h
  |cons a t=>exact k a t h
@[elab_as_elim] theorem Fc {l:List α} {x:Option β} {r:β} (h:c0 l x=some r) {M:List α→Prop} (k:x=some r→M []):M l:=by
  cases l with
  |nil=>exact k h
  |cons a t=>exact nn h
end
section
variable{α:Type}{r:α}{st:List D}{M:List D→Prop}
noncomputable def cZ (st:List D) (f:Int→List D→Option α):Option α:=c1 st fun d r=>dZ d fun i=>f i r
noncomputable def cZZ (st:List D) (f:Int→Int→List D→Option α):Option α:=cZ st fun b r=>cZ r fun a r=>f b a r
@[elab_as_elim] theorem Dg {f:Int→List D→Option α} (h:cZ st f=some r) (k:∀i t,f i t=some r→M (.int i::t)):M st:=Wu h fun d t h=>Vf (M:=fun d=>M (d::t)) h fun i h=>k i t h
@[elab_as_elim] theorem Ll {f:Int→Int→List D→Option α} (h:cZZ st f=some r) (k:∀b a t,f b a t=some r→M (.int b:: .int a::t)):M st:=Dg h fun b t h=>Dg (M:=fun t=>M (.int b::t)) h fun a t h=>k b a t h
noncomputable def iN (i:Int) (f:Nat→Option α):Option α:=Int.rec f (fun _=>none) i
@[elab_as_elim] theorem Zfx {i:Int} {f:Nat→Option α} (h:iN i f=some r) {M:Int→Prop} (k:∀n:Nat,f n=some r→M n):M i:=by
  cases i with
  |ofNat n=>exact k n h
  |negSucc n=>exact nn h
end
section
variable(Φ:List Fact)(call:Int→List D→Wd→VR')(args:List D)(J:Nat→VK)
noncomputable def Zsh (x:Nat) (k:VK):VK:=fun n st cl w=>ob args[x]? fun d=>k n (d::st) cl w
noncomputable def Zsj (f:Int) (k:VK):VK:=fun n st cl w=>cZ st fun o r=>ob (Zc w.obj o) fun fs=>ob (Zc fs f) fun v=>k n (.int v::r) cl w
noncomputable def Zsk (x:Nat) (k:VK):VK:=fun n st cl w=>ob cl[x]? fun d=>k n (d::st) cl w
noncomputable def iC (i:Int) (k:VK):VK:=fun n st cl w=>k n (.int i::st) cl w
noncomputable def Zqg (f:Int→Int→Option Int) (k:VK):VK:=fun n st cl w=>cZZ st fun b a r=>ob (f a b) fun c=>k n (.int c::r) cl w
noncomputable def iSt (f:Int) (k:VK):VK:=fun n st cl w=>cZZ st fun b o r=>ob (Zc w.obj o) fun fs=>ob (Sk fs f b) fun fs'=>ob (Sk w.obj o fs') fun l=>k n r cl {w with obj:=l}
noncomputable def Yac (k:VK):VK:=fun n st cl w=>cZZ st fun b a r=>iN b fun b=>ob (Zc w.arr a) fun xs=>gd (Nat.blt b 1000&&Ws xs.length) (ob xs[b]? fun v=>k n (.int v::r) cl w)
noncomputable def Yaf (k:VK):VK:=fun n st cl w=>cZZ st fun v b r=>iN b fun b=>cZ r fun a r=>ob (Zc w.arr a) fun xs=>gd (Nat.blt b 1000&&(Nat.blt b xs.length&&Ws xs.length)) (ob (Sk w.arr a (Z7 xs b v)) fun l=>k n r cl {w with arr:=l})
noncomputable def Zsm (x:Nat) (k:VK):VK:=fun n st cl w=>c1 st fun d r=>gd (Nat.blt x cl.length) (k n r (Z7 cl x d) w)
noncomputable def Yae:VK:=fun _ st _ w=>some (.tuple [.str "gives",.list st.reverse],w)
noncomputable def iBr (t:Nat):VK:=J t
noncomputable def Yhn (k:VK):VK:=k
noncomputable def Yad (k:VK):VK:=fun n st cl w=>cZ st fun a r=>ob (Zc w.arr a) fun xs=>gd (Ws xs.length) (k n (.int xs.length::r) cl w)
noncomputable def Ya9 (k:VK):VK:=fun n st cl w=>c1 st fun d r=>k n (.tuple [.str "box",d]::r) cl w
noncomputable def nz (d:D):Option Bool:=match d with
 |.int i=>Q5 (eqC Φ i 0)
 |.tuple _=>gd (shp d) (some true)
 |_=>none
noncomputable def Yab (t:Nat) (k:VK):VK:=fun n st cl w=>c1 st fun d r=>ob (nz Φ d) fun b=>bp b (J t n r cl w) (k n r cl w)
noncomputable def Yaa (t:Nat) (k:VK):VK:=fun n st cl w=>c1 st fun d r=>ob (nz Φ d) fun b=>bp b (k n r cl w) (J t n r cl w)
noncomputable def Kh (k:VK):VK:=fun n st cl w=>cZ st fun m r=>gd (leN m 1000&&Ws w.bnd) (ob (Tt w.narr 1) fun a=>ob (G3 a 1) fun b=>k n (.int b::r) cl {w with arr:=(w.narr,List.replicate m.toNat 0)::w.arr,narr:=a,bnd:=w.bnd + 1})
noncomputable def Fr:VK:=fun _ st _ w=>cZ st fun v _=>some (.tuple [.str "throws",.list [.int v]],w)
noncomputable def Zsl (k:VK):VK:=fun n st cl w=>c1 st fun _ r=>k n r cl w
noncomputable def Kd {α:Type} (d:D) (x:Option α):Option α:=dT d fun l=>c1 l fun a r=>c1 r fun b r=>c0 r (dS a fun s=>dL b fun y=>c0 y (gd (decide (s=("gives":Str))) x))
noncomputable def Ci (k:VK):VK:=fun n st cl w=>c1 st fun d r=>bd (call 206 [d] w) fun g w1=>Kd g (k n r cl w1)
noncomputable def Ui (k:VK):VK:=fun n st cl w=>c1 st fun d r=>gd (Ws w.bnd) (ob (Tt w.nobj 1) fun m=>ob (G3 m 1) fun e=>bd (call 134 [.int e,d] {w with obj:=(w.nobj,[(20,0),(21,0),(22,0),(23,0)])::w.obj,nobj:=m,bnd:=w.bnd + 1}) fun g w1=>Kd g (k n (.int e::r) cl w1))
noncomputable def Vw (v:Int) (k:VK):VK:=fun n st cl w=>c1 st fun _ r=>k n (.int v::r) cl w
noncomputable def Zsi (k:VK):VK:=fun n st cl w=>c1 st fun x r=>c1 r fun y r=>dT x fun b=>dT y fun a=>gd (shp (.tuple a)&&shp (.tuple b)) (ob (eqD Φ (.tuple a) (.tuple b)) fun t=>k n (.int (bp t 1 0)::r) cl w)
noncomputable def Zb2 (f:Int→Int→Option Bool) (t:Nat) (k:VK):VK:=fun n st cl w=>cZZ st fun b a r=>ob (f a b) fun c=>bp c (J t n r cl w) (k n r cl w)
noncomputable def Ir (a:Int):Option Int:=gd (small a) (some (a.fmod 4294967296))
noncomputable def ltU (a b:Int):Option Bool:=ob (Ir a) fun x=>ob (Ir b) fun y=>some (ltB x y)
noncomputable def den (i:Ins):VK→VK:=Ins.rec (Zsh args) Zsj Zsk iC (Zqg Tt) iSt Yac Yaf Zsm (fun _=>Yae)
 (fun t _=>iBr J t) Yhn Yad (iC 0) Ya9 (Yab Φ J) (Yaa Φ J) Kh (fun _=>Fr) Zsl (Ci call) (Ui call) Vw
 (Zqg G3) (Zqg (Zay Φ .Mult)) (Zsi Φ) (Zb2 J (ltC Φ)) (Zb2 J fun a b=>Q5 (ltC Φ b a)) (Zb2 J (eqC Φ)) (Zb2 J ltU) (Zb2 J fun a b=>Q5 (ltU b a)) i
noncomputable def vkc (l:List Ins):VK:=List.rec (fun _ _ _ _=>none) (fun i _ ih=>Xf (den Φ call args J i ih)) l
end
noncomputable def Zpj (l:List Ins):List Ins:=List.rec [] (fun _ r _=>r) l
noncomputable def Hf (code:List Ins) (t:Nat):List Ins:=Nat.rec code (fun _ ih=>Zpj ih) t
noncomputable def vJ (Φ:List Fact) (call:Int→List D→Wd→VR') (args:List D) (code:List Ins) (m:Nat):Nat→VK:=
 Nat.rec (fun _ _ _ _ _=>none) (fun _ ih t=>vkc Φ call args ih (Hf code t)) m
structure Me where
 cells:Nat
 code:List Ins
noncomputable def vm (Φ:List Fact) (mes:Int→Option Me) (d:Nat):Int→List D→Wd→VR':=
 Nat.rec (fun _ _ _=>none) (fun _ ih mid args w=>ob (mes mid) fun M=>vkc Φ ih args (vJ Φ ih args M.code 60) M.code 400 [] (List.replicate M.cells (.int 0)) w) d
noncomputable def Yhz:Me:=⟨0,[.ldarg 0,.grow,.ldarg 0,.ldfld 8,.ldarg 0,.ldfld 9,.ldarg 1,.stelem,.ldarg 0,.ldarg 0,.ldfld 9,.ldc 1,.add,.stfld 9,.ldarg 0,.ldarg 0,.ldfld 10,.ldc 1,.add,.stfld 10,.ret]⟩
noncomputable def Yi7:Me:=⟨1,[.ldarg 1,.ldarg 0,.ldfld 9,.bleu 7,.ldstr,.newobj 32,.throw,.ldarg 0,.grow,.ldarg 0,.ldfld 9,.stloc 0,.br 27,.ldarg 0,.ldfld 8,.ldloc 0,.ldarg 0,.ldfld 8,.ldloc 0,.ldc 1,.sub,.ldelem,.stelem,.ldloc 0,.ldc 1,.sub,.stloc 0,.ldarg 1,.ldloc 0,.blt 13,.ldarg 0,.ldfld 8,.ldarg 1,.ldarg 2,.stelem,.ldarg 0,.ldarg 0,.ldfld 9,.ldc 1,.add,.stfld 9,.ldarg 0,.ldarg 0,.ldfld 10,.ldc 1,.add,.stfld 10,.ret]⟩
noncomputable def Yi3:Me:=⟨2,[.ldarg 1,.ldarg 0,.ldfld 9,.bltu 7,.ldstr,.newobj 32,.throw,.ldarg 0,.ldarg 0,.ldfld 9,.ldc 1,.sub,.stfld 9,.ldarg 1,.stloc 0,.br 30,.ldarg 0,.ldfld 8,.ldloc 0,.ldarg 0,.ldfld 8,.ldloc 0,.ldc 1,.add,.ldelem,.stelem,.ldloc 0,.ldc 1,.add,.stloc 0,.ldloc 0,.ldarg 0,.ldfld 9,.blt 16,.ldarg 0,.ldfld 8,.ldarg 0,.ldfld 9,.ldloc 1,.stelem,.ldarg 0,.ldarg 0,.ldfld 10,.ldc 1,.add,.stfld 10,.ret]⟩
noncomputable def Yi1:Me:=⟨0,[.ldarg 1,.ldarg 0,.ldfld 9,.bltu 7,.ldstr,.newobj 32,.throw,.ldarg 0,.ldfld 8,.ldarg 1,.ldelem,.ret]⟩
noncomputable def Yi2:Me:=⟨0,[.ldarg 1,.ldarg 0,.ldfld 9,.bltu 7,.ldstr,.newobj 32,.throw,.ldarg 0,.ldfld 8,.ldarg 1,.ldarg 2,.stelem,.ldarg 0,.ldarg 0,.ldfld 10,.ldc 1,.add,.stfld 10,.ret]⟩
noncomputable def Yi5:Me:=⟨2,[.br 25,.ldarg 0,.ldfld 8,.ldloc 0,.ldelem,.box,.stloc 1,.ldloc 1,.brt 13,.ldarg 1,.box,.brf 31,.br 21,.ldarg 1,.box,.brf 21,.ldloc 1,.ldarg 1,.box,.equ,.brt 31,.ldloc 0,.ldc 1,.add,.stloc 0,.ldloc 0,.ldarg 0,.ldfld 9,.blt 1,.ldc 0,.ret,.ldc 1,.ret]⟩
noncomputable def Yic:Me:=⟨2,[.ldarg 0,.ldfld 9,.ldarg 0,.ldfld 8,.ldlen,.conv,.blt 39,.ldarg 0,.ldfld 9,.brt 12,.ldc 4,.br 16,.ldarg 0,.ldfld 9,.ldc 2,.mul,.newarr,.stloc 0,.ldc 0,.stloc 1,.br 32,.ldloc 0,.ldloc 1,.ldarg 0,.ldfld 8,.ldloc 1,.ldelem,.stelem,.ldloc 1,.ldc 1,.add,.stloc 1,.ldloc 1,.ldarg 0,.ldfld 9,.blt 21,.ldarg 0,.ldloc 0,.stfld 8,.ret]⟩
noncomputable def Yi9:Me:=⟨1,[.ldarg 0,.ldfld 23,.ldarg 0,.ldfld 20,.ldfld 10,.beq 9,.ldstr,.newobj 29,.throw,.ldarg 0,.ldfld 20,.ldfld 9,.ldarg 0,.ldfld 21,.ble 31,.ldarg 0,.ldarg 0,.ldfld 20,.ldfld 8,.ldarg 0,.ldfld 21,.ldelem,.stfld 22,.ldarg 0,.ldarg 0,.ldfld 21,.ldc 1,.add,.stfld 21,.ldc 1,.ret,.ldarg 0,.ldloc 0,.stfld 22,.ldc 0,.ret]⟩
noncomputable def Yia:Me:=⟨0,[.ldarg 0,.ldfld 22,.ret]⟩
noncomputable def Yi8:Me:=⟨0,[.ldarg 0,.octor,.ldarg 0,.ldarg 1,.stfld 20,.ldarg 0,.ldarg 1,.ldfld 10,.stfld 23,.ret]⟩
noncomputable def Yi6:Me:=⟨0,[.ldarg 0,.newenum,.ret]⟩
noncomputable def Yi4:Me:=⟨2,[.br 10,.ldarg 0,.ldfld 8,.ldloc 0,.ldloc 1,.stelem,.ldloc 0,.ldc 1,.add,.stloc 0,.ldloc 0,.ldarg 0,.ldfld 9,.blt 1,.ldarg 0,.ldc 0,.stfld 9,.ldarg 0,.ldarg 0,.ldfld 10,.ldc 1,.add,.stfld 10,.ret]⟩
noncomputable def Yhy:Me:=⟨0,[.ldarg 0,.octor,.ldarg 0,.ldc 0,.newarr,.stfld 8,.ret]⟩
noncomputable def Yi0:Me:=⟨0,[.ldarg 0,.ldfld 9,.ret]⟩
noncomputable def Yib:Me:=⟨0,[.ret]⟩
noncomputable def mesL:List (Nat×Me):=[(125,Yhz),(133,Yi7),(129,Yi3),(127,Yi1),(128,Yi2),(131,Yi5),(206,Yic),(135,Yi9),(136,Yia),(134,Yi8),(132,Yi6),(130,Yi4),(124,Yhy),(126,Yi0),(137,Yib)]
noncomputable def D6 {α:Type} (l:List (Nat×α)) (n:Nat):Option α:=List.rec none (fun p _ ih=>bp (Nat.beq p.1 n) (some p.2) ih) l
noncomputable def Bn (mid:Int):Option Me:=iN mid (D6 mesL)
noncomputable def vOk (σ:St) (w:Wd):Bool:=Nat.beq σ.base 247&&(Nat.beq w.sid 2&&σ.tmp.all Ft)
noncomputable def Zai (Φ:List Fact) (args:List V) (σ:St):Res:=c1 args fun x r=>c1 r fun y r=>c1 r fun z r=>c0 r (vL x fun l=>lW l (vZ y fun mid=>vD z fun d=>dL d fun as=>ob σ.w fun w=>gd (vOk σ w) (bd (vm Φ Bn 3 mid as w) fun d w'=>some (.dat d,{σ with w:=some w'}))))
noncomputable def U2 (T:Tb) (fns:Nat→Option Fn) (d:Nat):Nat→List V→St→Res:=
 Nat.rec (fun _ _ _=>none) (fun _ ih f args σ=>bp (Nat.beq f 66) (Zai T.fx args σ) (ob (fns f) fun F=>Rd T ih F args σ)) d
structure Xv where
 T:Tb
 cf:Nat→List V→St→Res
 md:Nat
noncomputable def Xv.ev (X:Xv) (lo:Zd) (e:IE) (σ:St) (v:V) (σ':St):Prop:=(kE X.T X.cf X.md e).1 lo σ=some (v,σ')
noncomputable def Xv.evs (X:Xv) (lo:Zd) (l:List IE) (σ:St) (vs:List V) (σ':St):Prop:=eEs (kEs X.T X.cf X.md l) lo σ=some (vs,σ')
noncomputable def Xv.ex (X:Xv) (lo:Zd) (s:IS) (σ:St) (fl:Fl) (lo':Zd) (σ':St):Prop:=kS X.T X.cf X.md s lo σ=some (fl,lo',σ')
noncomputable def Xv.exs (X:Xv) (lo:Zd) (l:List IS) (σ:St) (fl:Fl) (lo':Zd) (σ':St):Prop:=kSs X.T X.cf X.md l lo σ=some (fl,lo',σ')
section
variable{α β γ:Type}
theorem Z5{x:Option α}{f:α→Option β}{a:α}{r:β}(h:x=some a)(k:f a=some r):ob x f=some r:=(Mp h).trans k
theorem W4{x:Option (α×β)}{f:α→β→Option γ}{a:α}{b:β}{r:γ}(h:x=some (a,b))(k:f a b=some r):bd x f=some r:=(Zq1 h).trans k
theorem Uz{b:Bool}{x:Option α}{r:α}(h:b=true)(k:x=some r):gd b x=some r:=(Zsf h).trans k
theorem Zq0{x:Option (V×St)}{f:Nat→St→Option α}{n:Nat}{σ:St}{r:α}(h:x=some (.loc (.id n),σ))(k:f n σ=some r):bI x f=some r:=(Zq1 h).trans k
theorem Yhe{x:Option (V×St)}{f:St→Option α}{σ:St}{r:α}(h:x=some (.loc .w,σ))(k:f σ=some r):bW x f=some r:=(Zq1 h).trans k
theorem Yhf{x:Option (V×St)}{f:Int→St→Option α}{n:Int}{σ:St}{r:α}(h:x=some (.dat (.int n),σ))(k:f n σ=some r):bZ x f=some r:=(Zq1 h).trans k
theorem Jp{x:Option O}{f:Nat→List V→Option α}{c:Nat}{vs:List V}{r:α}(h:x=some (.inst c vs))(k:f c vs=some r):Pv x f=some r:=(Mp h).trans k
theorem Zmu{x:Option O}{f:List D→Option α}{vs:List D}{r:α}(h:x=some (.dl vs))(k:f vs=some r):oDl x f=some r:=(Mp h).trans k
end
noncomputable abbrev Xv.c (X:Xv) (e:IE):Clo:=(kE X.T X.cf X.md e).1
section
variable{X:Xv}{lo lo1 lo':Zd}{σ σ1 σ2 σ3 σ4:St}{v x y:V}{fl:Fl}
theorem Zg{j:Nat}(h:lo[j]? =some (some v)):X.ev lo (.nm j) σ v σ:=show eNm j lo σ=_ from Z5 h rfl
theorem Zpr{j g:Nat}(h:X.T.gval g=some v):X.ev lo (.gl j g) σ v σ:=show eGl X.T g lo σ=_ from Z5 h rfl
theorem Yh{e i:IE}(h1:X.ev lo e σ x σ1)(h2:X.ev lo i σ1 y σ2)(h3:Qw X.T σ2 x y=some v):X.ev lo (.sub e i) σ v σ2:=show Zqb X.T (X.c e) (X.c i) lo σ=_ from W4 h1 (W4 h2 (Z5 h3 rfl))
theorem N7{op:Operator}{a b:IE}(h1:X.ev lo a σ x σ1)(h2:X.ev lo b σ1 y σ2)(h3:Zrk X.T.fx op x y σ2=some (v,σ3)):X.ev lo (.bin op a b) σ v σ3:=show Zq6 X.T op (X.c a) (X.c b) lo σ=_ from W4 h1 (W4 h2 h3)
theorem X1{op:CmpOp}{a b:IE}{t:Bool}(h1:X.ev lo a σ x σ1)(h2:X.ev lo b σ1 y σ2)(h3:Zq3 X.T op x y σ2=some t):X.ev lo (.cmp op a b) σ (.dat (.bool t)) σ2:=show Zq7 X.T op (X.c a) (X.c b) lo σ=_ from W4 h1 (W4 h2 (Z5 h3 rfl))
theorem Rj{j:Nat}{k:WK}{w:Wd}(h:lo[j]? =some (some (.loc .w)))(hw:σ.w=some w):X.ev lo (.wk (.nm j) k) σ (wkV w k) σ:=show eWk (eNm j) k lo σ=_ from Yhe (Zg (X:=X) h) (Z5 hw rfl)
theorem V7{e:IE}{a k c p:Nat}{vs:List V}(h1:X.ev lo e σ (.loc (.id k)) σ1)(h2:Zj X.T.old σ1 k=some (.inst c vs))(h3:Jy (X.T.attrs c) a 0=some p)(h4:vs[p]? =some v):X.ev lo (.attr e a) σ v σ1:=show Ha X.T (X.c e) a lo σ=_ from Zq0 h1 (Jp h2 (Z5 h3 (Z5 h4 rfl)))
theorem Zf{e:IE}{r:List IE}{vs:List V}(h1:X.ev lo e σ v σ1)(h2:X.evs lo r σ1 vs σ2):X.evs lo (e::r) σ (v::vs) σ2:=show Dw (X.c e) (eEs (kEs X.T X.cf X.md r)) lo σ=_ from W4 h1 (W4 h2 rfl)
theorem Ip{es:List IE}{vs:List V}{ds:List D}(h1:X.evs lo es σ vs σ1)(h2:Vi X.T vs σ1=some (ds,σ2))(h3:Ws ds.length=true):X.ev lo (.tup es) σ (.dat (.tuple ds)) σ2:=show Zqc X.T (eEs (kEs X.T X.cf X.md es)) lo σ=_ from W4 h1 (W4 h2 (Uz h3 rfl))
theorem Im{e:IE}{d:D}(h1:X.ev lo e σ (.dat d) σ1):X.ev lo (.lst [e]) σ (.dat (.list [d])) σ1:=show Zer X.md (eEs (kEs X.T X.cf X.md [e])) lo σ=_ from W4 (Zf h1 rfl) rfl
theorem Zan{a b:IE}{d d':D}(h1:X.ev lo a σ (.dat d) σ1)(h2:X.ev lo b σ1 (.dat d') σ2):X.ev lo (.lst [a,b]) σ (.dat (.list [d,d'])) σ2:=show Zer X.md (eEs (kEs X.T X.cf X.md [a,b])) lo σ=_ from W4 (Zf h1 (Zf h2 rfl)) rfl
theorem Tr{j f:Nat}{es:List IE}{vs:List V}(h1:X.evs lo es σ vs σ1)(h2:X.cf f vs σ1=some (v,σ2)):X.ev lo (.call j f es) σ v σ2:=show Hb X.cf f (eEs (kEs X.T X.cf X.md es)) lo σ=_ from W4 h1 h2
theorem Q2{j:Nat}{e:IE}{k:Int}(h:X.ev lo e σ x σ1)(h2:Zb4 X.T σ1 x=some k):X.ev lo (.bi j .len e) σ (.dat (.int k)) σ1:=show eBi X.T .len (X.c e) lo σ=_ from W4 h (Z5 (show iz (Zb4 X.T σ1 x)=_ from Z5 h2 rfl) rfl)
theorem Ey{a b:IE}(h:X.ev lo a σ (.dat (.bool false)) σ1)(k:X.ev lo b σ1 v σ2):X.ev lo (.bop .Or [a,b]) σ v σ2:=show Zep .Or (X.c a) (X.c b) lo σ=_ from W4 h k
theorem Zam{a b:IE}(h:X.ev lo a σ (.dat (.bool true)) σ1)(k:X.ev lo b σ1 v σ2):X.ev lo (.bop .And [a,b]) σ v σ2:=show Zep .And (X.c a) (X.c b) lo σ=_ from W4 h k
theorem Zao{e:IE}{a f k c:Nat}{es:List IE}{us vs:List V}(h1:X.ev lo e σ (.loc (.id k)) σ1)(h2:Zj X.T.old σ1 k=some (.inst c us))(h3:X.T.meth c a=some f)(h4:X.evs lo es σ1 vs σ2)(h5:X.cf f (.loc (.id k)::vs) σ2=some (v,σ3)):X.ev lo (.meth e a f es) σ v σ3:=
 show Hc X.T X.cf (X.c e) a f (eEs (kEs X.T X.cf X.md es)) lo σ=_ from Zq0 h1 (Jp h2 (Z5 h3 (Uz (Nat.beq_refl f) (W4 h4 h5))))
theorem Il{t a b:IE}{c:Bool}(h:X.ev lo t σ (.dat (.bool c)) σ1)(k:X.ev lo (bp c a b) σ1 v σ2):X.ev lo (.ite t a b) σ v σ2:=show Zq8 (X.c t) (X.c a) (X.c b) lo σ=_ from W4 h (by cases c <;> exact k)
theorem Zk{s:IS}(h:X.ex lo s σ fl lo' σ1):X.exs lo [s] σ fl lo' σ1:=h
theorem Zi{s t:IS}{r:List IS}(h:X.ex lo s σ .next lo1 σ1)(k:X.exs lo1 (t::r) σ1 fl lo' σ2):X.exs lo (s::t::r) σ fl lo' σ2:=(Zqz h).trans k
theorem Ex{s t:IS}{r:List IS}(h:X.ex lo s σ (.ret v) lo1 σ1):X.exs lo (s::t::r) σ (.ret v) lo1 σ1:=Zoe h
theorem Zaj{e:IE}(h:X.ev lo e σ v σ1):X.ex lo (.ex e) σ .next lo σ1:=show sEx (X.c e) lo σ=_ from W4 h rfl
theorem Yg{j:Nat}{e:IE}(h:X.ev lo e σ v σ1)(hb:Yv j v lo=some lo1):X.ex lo (.asg j e) σ .next lo1 σ1:=show Zr1 j (X.c e) lo σ=_ from W4 h (show nx _ _=_ from Z5 hb rfl)
theorem Y7{e:IE}(h:X.ev lo e σ v σ1):X.ex lo (.ret e) σ (.ret v) lo σ1:=show Zr4 (X.c e) lo σ=_ from W4 h rfl
theorem Oc{o i e:IE}(h1:X.ev lo e σ v σ1)(h2:X.ev lo o σ1 x σ2)(h3:X.ev lo i σ2 y σ3)(h4:En X.T σ3 v x y=some σ4):X.ex lo (.setS o i e) σ .next lo σ4:=show Gu X.T (X.c o) (X.c i) (X.c e) lo σ=_ from W4 h1 (W4 h2 (W4 h3 (show nS _ _=_ from Z5 h4 rfl)))
theorem Q1{c:IE}{b o:List IS}{t:Bool}(h:X.ev lo c σ (.dat (.bool t)) σ1)(k:X.exs lo (bp t b o) σ1 fl lo' σ2):X.ex lo (.ife c b o) σ fl lo' σ2:=show Zr2 (X.c c) (kSs X.T X.cf X.md b) (kSs X.T X.cf X.md o) lo σ=_ from W4 h (by cases t <;> exact k)
theorem Tq{c:IE}{b:List IS}(h:X.ev lo c σ (.dat (.bool false)) σ):X.ex lo (.ife c b []) σ .next lo σ:=Q1 h rfl
theorem Tp{T:Tb}{cf:Nat→List V→St→Res}{F:Fn}{args:List V}{v':V}(ha:Nat.beq args.length F.np=true)(h:Xv.exs ⟨T,cf,F.md⟩ (args.map some++List.replicate (F.nl - F.np) none) F.body σ fl lo' σ1)(k:Bb F.md σ σ1 (flV fl)=some (v',σ2)):Rd T cf F args σ=some (v',σ2):=by
 refine(Zsf ha).trans ?_;rw[show kSs T cf F.md F.body (args.map some++List.replicate (F.nl - F.np) none) σ=_ from h];exact k
end
theorem U7{k:Nat}(h:k≤100000):Yo (k:Int)=true:=Wt (Nat.lt_of_le_of_lt h (by decide))
theorem Y6{k:Nat}(h:k≤100000):small (k:Int)=true:=Wt (Nat.lt_of_le_of_lt h (by decide))
theorem szL{k:Nat}(h:k≤100000):Ws k=true:=Nat.ble_eq.mpr h
theorem Yh5{k:Nat}(h:k < 100000):Tt (k:Int) 1=some ((k + 1:Nat):Int):=by
 unfold Tt;rw[U7 (Nat.le_of_lt h),show hiC ((k:Int) + 1)=0 from Y1 (U7 (k:=k + 1) h),Y1 (U7 (Nat.le_of_lt h))];rfl
def Fit'(k:Nat)(st:List D):Prop:=st.length + k≤50000
section
variable{k:Nat}{d:D}{st:List D}
theorem Fit'.pop(h:Fit' k (d::st)):Fit' k st:=Nat.le_trans (Nat.add_le_add_right (Nat.le_succ _) k) h
theorem Fit'.push(h:Fit' (k + 1) st):Fit' k (d::st):=show st.length + 1 + k≤50000 from Nat.add_right_comm st.length 1 k ▸ h
theorem Fit'.dec(h:Fit' (k + 1) st):Fit' k st:=Nat.le_of_succ_le h
theorem Fit'.swap{d':D}(h:Fit' k (d::st)):Fit' k (d'::st):=h
theorem Fit'.le(h:Fit' k st):st.length≤100000:=Nat.le_trans (Nat.le_add_right _ k) (Nat.le_trans h (by decide))
end
structure Vz where
 fx:List Fact
 old:Nat→Option O
 d:Nat
 n:Nat
 tmp:List O
 mid:Int
 args:List D
 bid:Nat
 rows:List V
noncomputable abbrev Vz.T (Z:Vz):Tb:=Tk Z.fx Z.old
noncomputable abbrev Vz.R (Z:Vz) (k:Nat):Nat→List V→St→Res:=run (Tk Z.fx Z.old) Wn (Z.d + k)
noncomputable def Vz.S (Z:Vz) (st cl:List D) (w:Wd):St:=⟨247,Z.n + 2,.dl st:: .dl cl.reverse::Z.tmp,some w⟩
structure Iy(Z:Vz):Prop where
 lt:Z.bid < 247
 at_:∃vs cid rv,Z.old Z.bid=some (.inst 4 vs)∧vs[2]? =some (.loc (.id cid))∧cid < 247∧Z.old cid=some (.rev rv)∧rv.reverse=Z.rows
 hn:247≤Z.n
 ht:Z.tmp.all Ft=true
section
variable{Z:Vz}{st st' cl:List D}{w w':Wd}
theorem Zqe(h:247≤Z.n):Zj Z.old (Z.S st cl w) (Z.n + 1)=some (.dl st):=(Xe (σ:=Z.S st cl w) (Nat.not_lt.mpr (Nat.le_succ_of_le h)) (Nat.lt_succ_self _)).trans (by
 rw[show(Z.S st cl w).next - 1 - (Z.n + 1)=0 from Nat.sub_self _];rfl)
theorem Zfq(h:247≤Z.n):Zj Z.old (Z.S st cl w) Z.n=some (.dl cl.reverse):=(Xe (σ:=Z.S st cl w) (Nat.not_lt.mpr h) (Nat.lt_succ_of_lt (Nat.lt_succ_self _))).trans (by
 rw[show(Z.S st cl w).next - 1 - Z.n=1 from Nat.add_sub_cancel_left ..];rfl)
theorem Zb1{k:Nat}(h:k < 247):Zj Z.old (Z.S st cl w) k=Z.old k:=Y0 (σ:=Z.S st cl w) h
theorem J8{σ:St}{n:Nat}{o:O}(h:¬n < σ.base)(h':n < σ.next):X3 σ n o=some {σ with tmp:=Z7 σ.tmp (σ.next - 1 - n) o}:=by unfold X3;rw[Uo h,Wt h']
theorem setS(h:247≤Z.n){o:O}:X3 (Z.S st cl w) (Z.n + 1) o=some ⟨247,Z.n + 2,o:: .dl cl.reverse::Z.tmp,some w⟩:=(J8 (σ:=Z.S st cl w) (Nat.not_lt.mpr (Nat.le_succ_of_le h)) (Nat.lt_succ_self _)).trans (by
 rw[show(Z.S st cl w).next - 1 - (Z.n + 1)=0 from Nat.sub_self _];rfl)
theorem Zz4(h:247≤Z.n){c:List D}:X3 (Z.S st cl w) Z.n (.dl c.reverse)=some (Z.S st c w):=(J8 (σ:=Z.S st cl w) (Nat.not_lt.mpr h) (Nat.lt_succ_of_lt (Nat.lt_succ_self _))).trans (by
 rw[show(Z.S st cl w).next - 1 - Z.n=1 from Nat.add_sub_cancel_left ..];rfl)
variable{cf:Nat→List V→St→Res}{md:Nat}{lo:Zd}(H:Iy Z)
include H
theorem Z3{j k:Nat}{d:D}(hl:Fit' k (d::st))(h:lo[j]? =some (some (.loc (.id (Z.n + 1))))):Xv.ev ⟨Z.T,cf,md⟩ lo (.pop (.nm j)) (Z.S (d::st) cl w) (.dat d) (Z.S st cl w):=
 show Zqa Z.T (eNm j) lo _=_ from Zq0 (Zg (X:=⟨Z.T,cf,md⟩) h) (Zmu (Zqe H.hn) (show gd (Ws st.length) _=_ from Uz (szL hl.pop.le) (Z5 (setS H.hn) rfl)))
theorem Xd{j k:Nat}{a:IE}{d:D}(hl:Fit' k st')(ha:Xv.ev ⟨Z.T,cf,md⟩ lo a (Z.S st cl w) (.dat d) (Z.S st' cl w'))(h:lo[j]? =some (some (.loc (.id (Z.n + 1))))):Xv.ex ⟨Z.T,cf,md⟩ lo (.ex (.app (.nm j) a)) (Z.S st cl w) .next lo (Z.S (d::st') cl w'):=
 Zaj (v:= .dat .none) (show Zq5 Z.T (eNm j) (Xv.c ⟨Z.T,cf,md⟩ a) lo _=_ from Zq0 (Zg (X:=⟨Z.T,cf,md⟩) h) (Uz (congrArg Cv (Zqe H.hn)) (W4 ha (Z5 (Zqe H.hn) (Z5 (a:= .dl (d::st')) (show gd (Ws st'.length) _=_ from Uz (szL hl.le) rfl) (Z5 (setS H.hn) rfl))))))
end
structure L7 where
 a:Option V
 b:Option V
 c:Option V
 d:Option V
 e:Option V
 f:Option V
 g:Option V
def L7.op(l:L7)(op:Int)(x:D):L7:=⟨l.a,some (.dat (.int op)),some (.dat x),l.d,l.e,l.f,l.g⟩
noncomputable def Vz.LO (Z:Vz) (ip:Nat) (l:L7):Zd:=[some (.loc .w),some (.dat (.int Z.mid)),some (.dat (.list Z.args)),some (.loc (.id Z.bid)),some (.loc (.id Z.n)),some (.loc (.id (Z.n + 1))),some (.dat (.int ip)),l.a,l.b,l.c,l.d,l.e,l.f,l.g]
noncomputable abbrev rw2 (op:Int) (x:D):V:= .dat (.tuple [.int op,x])
noncomputable abbrev Vz.X (Z:Vz):Xv:=⟨Z.T,Z.R 2,1⟩
noncomputable def Lp:IS:=(T4[2]?).getD .pass
def Ty(Z:Vz)(op:Int)(x:D)(br:List IS):Prop:=∀(ip:Nat) (l:L7) (σ:St),kS Z.T (Z.R 2) 1 Lp (Z.LO ip (l.op op x)) σ=kSs Z.T (Z.R 2) 1 br (Z.LO ip (l.op op x)) σ
def Xo(Z:Vz)(ip:Nat)(st cl:List D)(w:Wd)(ip':Nat)(st' cl':List D)(w':Wd):Prop:=∀l,∃l',Z.X.exs (Z.LO ip l) T4 (Z.S st cl w) .next (Z.LO ip' l') (Z.S st' cl' w')
def Le(Z:Vz)(ip:Nat)(st cl:List D)(w:Wd)(v:V)(σ1:St):Prop:=∀l,∃lo',Z.X.exs (Z.LO ip l) T4 (Z.S st cl w) (.ret v) lo' σ1
theorem Zrc{k:Nat}(h:k < 100000):Zdp (.dat (.int k)) (.dat (.int 1))=some (.dat (.int ((k + 1:Nat):Int))):=show ob (Tt (k:Int) 1) (fun z=>some (V.dat (.int z)))=_ from Z5 (Yh5 h) rfl
section
variable{T:Tb}{σ:St}{w:Wd}
theorem Za4{a:Nat}{o:O}{d:D}{v:V}(h:Zj T.old σ a=some o)(k:Zz9 o d=some v):Qw T σ (.loc (.id a)) (.dat d)=some v:=Z5 h k
theorem Zp2{a x:Nat}{r:List D}{d:D}(hg:Zj T.old σ a=some (.dl r))(hx:x≤1000)(h:r.reverse[x]? =some d):Qw T σ (.loc (.id a)) (.dat (.int x))=some (.dat d):=Za4 hg (Uz (Y6 (Nat.le_trans hx (by decide))) (Z5 h rfl))
theorem Ie{a x:Nat}{r:List V}{d:V}(hg:Zj T.old σ a=some (.rev r))(hx:x≤100000)(h:r.reverse[x]? =some d):Qw T σ (.loc (.id a)) (.dat (.int x))=some d:=Za4 hg (Uz (Y6 hx) h)
theorem Za3{a x:Nat}{r:List V}{d:V}(hg:Zj T.old σ a=some (.list r))(hx:x≤100000)(h:r[x]? =some d):Qw T σ (.loc (.id a)) (.dat (.int x))=some d:=Za4 hg (Uz (Y6 hx) h)
theorem G5{xs:List D}{x:Nat}{d:D}(hx:x≤1000)(h:xs[x]? =some d):Qw T σ (.dat (.list xs)) (.dat (.int x))=some (.dat d):=Uz (Y6 (Nat.le_trans hx (by decide))) (Z5 h rfl)
theorem N2{o:Int}{fs:List (Int×Int)}(hw:σ.w=some w)(h:Zc w.obj o=some fs):Qw T σ (.loc .objs) (.dat (.int o))=some (.loc (.obj o)):=Z5 hw (Z5 h rfl)
theorem Rf{o:Int}{xs:List Int}(hw:σ.w=some w)(h:Zc w.arr o=some xs):Qw T σ (.loc .arrs) (.dat (.int o))=some (.loc (.arr o)):=Z5 hw (Z5 h rfl)
theorem Za2{o f v:Int}{fs:List (Int×Int)}(hw:σ.w=some w)(h:Zc w.obj o=some fs)(hf:Yo f=true)(hv:Zc fs f=some v):Qw T σ (.loc (.obj o)) (.dat (.int f))=some (.dat (.int v)):=Z5 hw (Z5 h (Uz hf (Z5 hv rfl)))
theorem Za1{a v:Int}{x:Nat}{xs:List Int}(hw:σ.w=some w)(h:Zc w.arr a=some xs)(hx:x≤1000)(hv:xs[x]? =some v):Qw T σ (.loc (.arr a)) (.dat (.int x))=some (.dat (.int v)):=Z5 hw (Z5 h (Uz (Y6 (Nat.le_trans hx (by decide))) (Z5 hv rfl)))
theorem A0{o f b:Int}{fs fs':List (Int×Int)}{l:List (Int×List (Int×Int))}(hw:σ.w=some w)(h1:Zc w.obj o=some fs)(h2:Sk fs f b=some fs')(h3:Sk w.obj o fs'=some l):En T σ (.dat (.int b)) (.loc (.obj o)) (.dat (.int f))=some {σ with w:=some {w with obj:=l}}:=Z5 hw (Z5 h1 (Z5 h2 (Z5 h3 rfl)))
theorem Nn{α:Type}{l:List α}{b:Nat}{v:α}(h:b < l.length):putAt l (b:Int) v=some (Z7 l b v):=Uz (Wt h) rfl
theorem G6{a v:Int}{b:Nat}{xs:List Int}{l:List (Int×List Int)}(hw:σ.w=some w)(h1:Zc w.arr a=some xs)(hb:b≤1000)(h2:b < xs.length)(h3:Sk w.arr a (Z7 xs b v)=some l):En T σ (.dat (.int v)) (.loc (.arr a)) (.dat (.int b))=some {σ with w:=some {w with arr:=l}}:=
 Z5 hw (Z5 h1 (Uz (Y6 (Nat.le_trans hb (by decide))) (Z5 (Nn h2) (Z5 h3 rfl))))
theorem Fq{k:Nat}(h:k≤100000):hiC (k:Int)=0:=Y1 (U7 h)
theorem K3{Φ:List Fact}{a b:Int}(h1:hiC a=0)(h2:hiC b=0):ltC Φ a b=some (ltB a b):=by
 unfold ltC;rw[h1,h2];rfl
theorem K4{Φ:List Fact}{b m:Nat}(hb:b≤100000)(hm:m≤100000):ltC Φ (b:Int) (m:Int)=some (ltB (b:Int) (m:Int)):=K3 (Fq hb) (Fq hm)
theorem lt0{Φ:List Fact}{b:Nat}(h:b≤1000):ltC Φ (b:Int) 0=some false:=(K4 (m:=0) (Nat.le_trans h (by decide)) (Nat.zero_le _)).trans (congrArg some (Bool.eq_false_iff.mpr fun q=>Nat.not_lt_zero b (Int.ofNat_lt.mp ((W.Z.ltB_iff _ _).mp q))))
theorem Zgt{Φ:List Fact}{b m:Nat}(h:b≤1000)(hm:m≤100000)(hb:b < m):ltC Φ (b:Int) (m:Int)=some true:=(K4 (Nat.le_trans h (by decide)) hm).trans (congrArg some ((W.Z.ltB_iff _ _).mpr (Int.ofNat_lt.mpr hb)))
theorem Kz{a:Int}{xs:List Int}(hw:σ.w=some w)(h:Zc w.arr a=some xs)(hl:xs.length≤100000):Zb4 T σ (.loc (.arr a))=some (xs.length:Int):=Z5 hw (Z5 h (Uz (szL hl) rfl))
theorem Fit'.le1{k:Nat}{st:List D}(h:Fit' k st):Fit' 0 st:=Nat.le_trans (Nat.add_le_add_left (Nat.zero_le k) _) h
end
section
variable{Z:Vz}{st st' cl cl':List D}{w w':Wd}{ip k:Nat}
theorem Zp1{x:Nat}{d:D}(hn:247≤Z.n)(hx:x≤1000)(h:cl[x]? =some d):Qw Z.T (Z.S st cl w) (.loc (.id Z.n)) (.dat (.int x))=some (.dat d):=Zp2 (Zfq hn) hx ((List.reverse_reverse cl).symm ▸ h)
theorem Zox{x:Nat}{d:D}(hn:247≤Z.n)(hx:x≤1000)(h:x < cl.length):En Z.T (Z.S st cl w) (.dat d) (.loc (.id Z.n)) (.dat (.int x))=some (Z.S st (Z7 cl x d) w):=
 Z5 (Zfq hn) (Uz (Y6 (Nat.le_trans hx (by decide))) (Z5 (by rw[List.reverse_reverse];exact Nn h) (Zz4 hn)))
variable(H:Iy Z)
include H
theorem Ys{op:Int}{x:D}{br:List IS}{fl:Fl}{lo':Zd}{σ':St}(hip:ip < 100000)(hr:Z.rows[ip]? =some (rw2 op x))(el:Ty Z op x br)(l:L7)(h:Z.X.exs (Z.LO (ip + 1) (l.op op x)) br (Z.S st cl w) fl lo' σ'):Z.X.exs (Z.LO ip l) T4 (Z.S st cl w) fl lo' σ':=
 H.at_.elim fun vs e=>e.elim fun cid e=>e.elim fun rv e=>show Z.X.exs _ [.asg2 8 9 (.sub (.attr (.nm 3) 40) (.nm 6)),.augN 6 (.c (.int 1)),Lp] _ _ _ _ from
  have f:Z.X.ev (Z.LO ip l) (.sub (.attr (.nm 3) 40) (.nm 6)) (Z.S st cl w) (rw2 op x) (Z.S st cl w):=Yh (V7 (c:=4) (p:=2) (Zg rfl) ((Zb1 H.lt).trans e.1) rfl e.2.1) (Zg rfl) (Ie ((Zb1 e.2.2.1).trans e.2.2.2.1) (Nat.le_of_lt hip) (e.2.2.2.2.symm ▸ hr))
  Zi (lo1:=Z.LO ip (l.op op x)) (show Gq 8 9 (Z.X.c (.sub (.attr (.nm 3) 40) (.nm 6))) _ _=_ from W4 f rfl) (Zi (lo1:=Z.LO (ip + 1) (l.op op x)) (σ1:=Z.S st cl w) (show Gr 6 (Z.X.c (.c (.int 1))) _ _=_ from Z5 (a:=some (.dat (.int ip))) rfl (Z5 (a:= .dat (.int ip)) rfl (W4 (a:= .dat (.int 1)) (b:=Z.S st cl w) rfl (Z5 (Zrc hip) rfl)))) (Zk ((el (ip + 1) l _).trans h)))
end
noncomputable abbrev Zdw:List IS:=[.ex (.app (.nm 5) (.sub (.nm 2) (.nm 9)))]
noncomputable abbrev Zdx:List IS:=[.ex (.app (.nm 5) (.sub (.sub (.wk (.nm 0) .objs) (.pop (.nm 5))) (.sub (.nm 9) (.c (.int 1)))))]
noncomputable abbrev Ze0:List IS:=[.ex (.app (.nm 5) (.sub (.nm 4) (.nm 9)))]
noncomputable abbrev Zdy:List IS:=[.ex (.app (.nm 5) (.nm 9))]
noncomputable abbrev Zdv:List IS:=[.asg 10 (.pop (.nm 5)),.ex (.app (.nm 5) (.bin .Add (.pop (.nm 5)) (.nm 10)))]
noncomputable abbrev Ze3:List IS:=[.asg 10 (.pop (.nm 5)),.setS (.sub (.wk (.nm 0) .objs) (.pop (.nm 5))) (.sub (.nm 9) (.c (.int 1))) (.nm 10)]
noncomputable abbrev Db:IS:= .ife (.bop .Or [(.cmp .Lt (.nm 10) (.c (.int 0))),(.cmp .GtE (.nm 10) (.bi 22 .len (.nm 11)))]) [(.ret (.tup [(.c (.str "bounds")),(.lst [(.nm 1)])]))] []
noncomputable abbrev Zdz:List IS:=[.asg 10 (.pop (.nm 5)),.asg 11 (.sub (.wk (.nm 0) .arrays) (.pop (.nm 5))),Db,.ex (.app (.nm 5) (.sub (.nm 11) (.nm 10)))]
noncomputable abbrev Ze2:List IS:=[.asg 12 (.pop (.nm 5)),.asg 10 (.pop (.nm 5)),.asg 11 (.sub (.wk (.nm 0) .arrays) (.pop (.nm 5))),Db,.setS (.nm 11) (.nm 10) (.nm 12)]
noncomputable abbrev Ze4:List IS:=[.setS (.nm 4) (.nm 9) (.pop (.nm 5))]
noncomputable abbrev Ze1:List IS:=[.ret (.tup [(.c (.str "gives")),(.nm 5)])]
noncomputable abbrev Xq:List IS:=[.asg 13 (.call 26 67 [(.nm 0),(.nm 8),(.nm 9),(.nm 5),(.nm 6)]),.ife (.bi 27 .isTup (.nm 13)) [(.ret (.nm 13))] [],.asg 6 (.nm 13)]
section
variable{Z:Vz}{x:D}
theorem Zet:Ty Z 65033 x Zdw:=fun ip l σ=>by kernel_rfl
theorem Zeu:Ty Z 123 x Zdx:=fun ip l σ=>by kernel_rfl
theorem Zex:Ty Z 65036 x Ze0:=fun ip l σ=>by kernel_rfl
theorem Zev:Ty Z 32 x Zdy:=fun ip l σ=>by kernel_rfl
theorem Zes:Ty Z 88 x Zdv:=fun ip l σ=>by kernel_rfl
theorem Zf0:Ty Z 125 x Ze3:=fun ip l σ=>by kernel_rfl
theorem Zew:Ty Z 163 x Zdz:=fun ip l σ=>by kernel_rfl
theorem Zez:Ty Z 164 x Ze2:=fun ip l σ=>by kernel_rfl
theorem Zf1:Ty Z 65038 x Ze4:=fun ip l σ=>by kernel_rfl
theorem Zey:Ty Z 42 x Ze1:=fun ip l σ=>by kernel_rfl
theorem Fb{lo:Zd}{a:Int}{b:Nat}{xs:List Int}{σ:St}{w:Wd}(h1:lo[10]? =some (some (.dat (.int b))))(h2:lo[11]? =some (some (.loc (.arr a))))(hw:σ.w=some w)(h3:Zc w.arr a=some xs)(hb:b≤1000)(hx:b < xs.length)(hl:xs.length≤100000):Z.X.ex lo Db σ .next lo σ:=
 Tq (Ey (X1 (x:= .dat (.int b)) (y:= .dat (.int 0)) (Zg h1) rfl (lt0 hb)) (X1 (op:= .GtE) (x:= .dat (.int b)) (y:= .dat (.int xs.length)) (Zg h1) (Q2 (Zg h2) (Kz hw h3 hl)) (show Q5 (ltC Z.fx b xs.length)=some false by rw[Zgt hb hl hx];rfl)))
end
section
variable{Z:Vz}{st cl:List D}{w:Wd}{ip k:Nat}(H:Iy Z)(hip:ip < 100000)
abbrev Ze(Z:Vz)(ip:Nat)(op:Int)(x:D):Prop:=Z.rows[ip]? =some (rw2 op x)
include H hip
theorem Zzc{x:Nat}{d:D}(hl:Fit' k st)(hr:Ze Z ip 65033 (.int x))(hx:x≤1000)(ha:Z.args[x]? =some d):Xo Z ip st cl w (ip + 1) (d::st) cl w:=fun l=>
 ⟨_,Ys H hip hr Zet l (Zk (Xd H hl (Yh (Zg rfl) (Zg rfl) (G5 hx ha)) rfl))⟩
theorem Zze{y:D}{r:List D}{o f v:Int}{fs:List (Int×Int)}(hl:Fit' k (.int o::st))(hr:Ze Z ip 123 (.tuple (y:: .int f::r)))(hf:Yo f=true)(h1:Zc w.obj o=some fs)(h2:Zc fs f=some v):Xo Z ip (.int o::st) cl w (ip + 1) (.int v::st) cl w:=fun l=>
 ⟨_,Ys H hip hr Zeu l (Zk (Xd H hl.pop (Yh (Yh (Rj rfl rfl) (Z3 H hl rfl) (N2 (w:=w) rfl h1)) (Yh (v:= .dat (.int f)) (Zg rfl) rfl rfl) (Za2 (w:=w) rfl h1 hf h2)) rfl))⟩
theorem Zzi{x:Nat}{d:D}(hl:Fit' k st)(hr:Ze Z ip 65036 (.int x))(hx:x≤1000)(ha:cl[x]? =some d):Xo Z ip st cl w (ip + 1) (d::st) cl w:=fun l=>
 ⟨_,Ys H hip hr Zex l (Zk (Xd H hl (Yh (Zg rfl) (Zg rfl) (Zp1 H.hn hx ha)) rfl))⟩
theorem Zzg{i:Int}(hl:Fit' k st)(hr:Ze Z ip 32 (.int i)):Xo Z ip st cl w (ip + 1) (.int i::st) cl w:=fun l=>
 ⟨_,Ys H hip hr Zev l (Zk (Xd H hl (Zg rfl) rfl))⟩
theorem Zzb{x:D}{a b c:Int}(hl:Fit' k (.int b:: .int a::st))(hr:Ze Z ip 88 x)(h:Tt a b=some c):Xo Z ip (.int b:: .int a::st) cl w (ip + 1) (.int c::st) cl w:=fun l=>
 ⟨{l.op 88 x with d:=some (.dat (.int b))},Ys H hip hr Zes l (Zi (Yg (Z3 H hl rfl) rfl) (Zk (Xd H hl.pop.pop (N7 (Z3 H hl.pop rfl) (Zg rfl) (Z5 h rfl)) rfl)))⟩
theorem Zzl{y:D}{r:List D}{o f b:Int}{fs fs':List (Int×Int)}{l':List (Int×List (Int×Int))}(hl:Fit' k (.int b:: .int o::st))(hr:Ze Z ip 125 (.tuple (y:: .int f::r)))(h1:Zc w.obj o=some fs)(h2:Sk fs f b=some fs')(h3:Sk w.obj o fs'=some l'):
 Xo Z ip (.int b:: .int o::st) cl w (ip + 1) st cl {w with obj:=l'}:=fun l=>
 ⟨{l.op 125 (.tuple (y:: .int f::r)) with d:=some (.dat (.int b))},Ys H hip hr Zf0 l (Zi (Yg (Z3 H hl rfl) rfl) (Zk (Oc (Zg rfl) (Yh (Rj rfl rfl) (Z3 H hl.pop rfl) (N2 (w:=w) rfl h1)) (Yh (v:= .dat (.int f)) (Zg rfl) rfl rfl) (A0 (w:=w) rfl h1 h2 h3))))⟩
theorem Zzh{x:D}{a v:Int}{b:Nat}{xs:List Int}(hl:Fit' k (.int b:: .int a::st))(hr:Ze Z ip 163 x)(h1:Zc w.arr a=some xs)(hb:b≤1000)(h2:xs[b]? =some v)(hx:xs.length≤100000):
 Xo Z ip (.int b:: .int a::st) cl w (ip + 1) (.int v::st) cl w:=fun l=>
 ⟨{l.op 163 x with d:=some (.dat (.int b)),e:=some (.loc (.arr a))},Ys H hip hr Zew l (Zi (Yg (Z3 H hl rfl) rfl) (Zi (Yg (Yh (Rj rfl rfl) (Z3 H hl.pop rfl) (Rf (w:=w) rfl h1)) rfl)
   (Zi (Fb (w:=w) (a:=a) (b:=b) (xs:=xs) rfl rfl rfl h1 hb (List.getElem?_eq_some_iff.mp h2).1 hx) (Zk (Xd H hl.pop.pop (Yh (Zg rfl) (Zg rfl) (Za1 (w:=w) rfl h1 hb h2)) rfl)))))⟩
theorem Zzk{x:D}{a v:Int}{b:Nat}{xs:List Int}{l':List (Int×List Int)}(hl:Fit' k (.int v:: .int b:: .int a::st))(hr:Ze Z ip 164 x)(h1:Zc w.arr a=some xs)(hb:b≤1000)(h2:b < xs.length)(hx:xs.length≤100000)(h3:Sk w.arr a (Z7 xs b v)=some l'):
 Xo Z ip (.int v:: .int b:: .int a::st) cl w (ip + 1) st cl {w with arr:=l'}:=fun l=>
 ⟨{l.op 164 x with d:=some (.dat (.int b)),e:=some (.loc (.arr a)),f:=some (.dat (.int v))},Ys H hip hr Zez l (Zi (Yg (Z3 H hl rfl) rfl) (Zi (Yg (Z3 H hl.pop rfl) rfl) (Zi (Yg (Yh (Rj rfl rfl) (Z3 H hl.pop.pop rfl) (Rf (w:=w) rfl h1)) rfl)
   (Zi (Fb (w:=w) (a:=a) (b:=b) (xs:=xs) rfl rfl rfl h1 hb h2 hx) (Zk (Oc (Zg rfl) (Zg rfl) (Zg rfl) (G6 (w:=w) rfl h1 hb h2 h3)))))))⟩
theorem Zzm{x:Nat}{d:D}(hl:Fit' k (d::st))(hr:Ze Z ip 65038 (.int x))(hx:x≤1000)(h:x < cl.length):Xo Z ip (d::st) cl w (ip + 1) st (Z7 cl x d) w:=fun l=>
 ⟨_,Ys H hip hr Zf1 l (Zk (Oc (Z3 H hl rfl) (Zg rfl) (Zg rfl) (Zox H.hn hx h)))⟩
omit hip in
theorem Ka:Vi Z.T [.dat (.str "gives"),.loc (.id (Z.n + 1))] (Z.S st cl w)=some ([.str "gives",.list st.reverse],⟨247,Z.n + 2,.dead:: .dl cl.reverse::Z.tmp,some w⟩):=
 have z:Vi Z.T [.loc (.id (Z.n + 1))] (Z.S st cl w)=some ([.list st.reverse],⟨247,Z.n + 2,.dead:: .dl cl.reverse::Z.tmp,some w⟩):=Zmu (Zqe H.hn) (Z5 (setS H.hn) rfl);show bd (Vi Z.T [.loc (.id (Z.n + 1))] (Z.S st cl w)) (fun ds σ'=>some (.str "gives"::ds,σ'))=_ from W4 z rfl
theorem Za5{x:D}(hr:Ze Z ip 42 x):Le Z ip st cl w (.dat (.tuple [.str "gives",.list st.reverse])) ⟨247,Z.n + 2,.dead:: .dl cl.reverse::Z.tmp,some w⟩:=fun l=>
 ⟨_,Ys H hip hr Zey l (Zk (Y7 (Ip (ds:=[.str "gives",.list st.reverse]) (Zf (v:= .dat (.str "gives")) rfl (Zf (Zg rfl) rfl)) (Ka H) rfl)))⟩
theorem N3{op:Int}{x:D}{ip':Nat}{st' cl':List D}{w':Wd}(el:Ty Z op x Xq)(hr:Ze Z ip op x)
 (h:Z.R 2 67 [.loc .w,.dat (.int op),.dat x,.loc (.id (Z.n + 1)),.dat (.int ((ip + 1:Nat):Int))] (Z.S st cl w)=some (.dat (.int ip'),Z.S st' cl' w')):Xo Z ip st cl w ip' st' cl' w':=fun l=>
 ⟨{l.op op x with g:=some (.dat (.int ip'))},Ys H hip hr el l (Zi (Yg (Tr (Zf (Zg rfl) (Zf (Zg rfl) (Zf (Zg rfl) (Zf (Zg rfl) (Zf (Zg rfl) rfl))))) h) rfl) (Zi (Tq rfl) (Zk (Yg (Zg rfl) rfl))))⟩
theorem Za6{op:Int}{x:D}{xs:List D}{σ1:St}(el:Ty Z op x Xq)(hr:Ze Z ip op x)
 (h:Z.R 2 67 [.loc .w,.dat (.int op),.dat x,.loc (.id (Z.n + 1)),.dat (.int ((ip + 1:Nat):Int))] (Z.S st cl w)=some (.dat (.tuple xs),σ1)):Le Z ip st cl w (.dat (.tuple xs)) σ1:=fun l=>
 ⟨_,Ys H hip hr el l (Zi (Yg (Tr (Zf (Zg rfl) (Zf (Zg rfl) (Zf (Zg rfl) (Zf (Zg rfl) (Zf (Zg rfl) rfl))))) h) rfl) (Ex (Q1 (t:=true) rfl (Zk (Y7 (Zg rfl))))))⟩
end
noncomputable def Vz.LR (Z:Vz) (op:Int) (x:D) (ip:Nat) (a b c:Option V):Zd:=[some (.loc .w),some (.dat (.int op)),some (.dat x),some (.loc (.id (Z.n + 1))),some (.dat (.int ip)),a,b,c]
noncomputable def Vz.LS (Z:Vz) (op:Int) (x a b:D) (ip:Nat):Zd:=[some (.dat (.int op)),some (.dat x),some (.loc (.id (Z.n + 1))),some (.dat a),some (.dat b),some (.dat (.int ip))]
noncomputable abbrev Vz.X7 (Z:Vz):Xv:=⟨Z.T,Z.R 1,0⟩
noncomputable abbrev Vz.X8 (Z:Vz):Xv:=⟨Z.T,Z.R 0,0⟩
def E1(Z:Vz)(op:Int)(x:D)(bs:List IS):Prop:=∀(ip:Nat) (σ:St),kSs Z.T (Z.R 1) 0 f67.body (Z.LR op x ip none none none) σ=rs (kSs Z.T (Z.R 1) 0 bs (Z.LR op x ip none none none) σ) (kSs Z.T (Z.R 1) 0 [.ret (.nm 4)])
def Zpy(Z:Vz)(op:Int)(x:D)(bs:List IS)(m:Nat):Prop:=∀(a b:D) (ip:Nat) (σ:St),kSs Z.T (Z.R 0) 0 f68.body (Z.LS op x a b ip) σ=rs (kSs Z.T (Z.R 0) 0 bs (Z.LS op x a b ip) σ) (kSs Z.T (Z.R 0) 0 (f68.body.drop m))
noncomputable abbrev Ze8:List IS:=[.ex (.app (.nm 3) (.bi 11 .len (.sub (.wk (.nm 0) .arrays) (.pop (.nm 3)))))]
noncomputable abbrev Zea:List IS:=[.ex (.app (.nm 3) (.c (.int 0)))]
noncomputable abbrev Ze5:List IS:=[.ex (.app (.nm 3) (.tup [(.c (.str "box")),(.pop (.nm 3))]))]
noncomputable abbrev On:List IS:=[.ife (.cmp .Eq (.cmp .NotEq (.pop (.nm 3)) (.c (.int 0))) (.cmp .Eq (.nm 1) (.gl 14 13))) [(.ret (.nm 2))] []]
noncomputable abbrev Lj:List IS:=[.wArr 0 (.pop (.nm 3)),.ex (.app (.nm 3) (.bin .Sub (.bi 11 .len (.wk (.nm 0) .arrays)) (.c (.int 1))))]
noncomputable abbrev I2:List IS:=[.ret (.tup [(.c (.str "throws")),(.lst [(.pop (.nm 3))])])]
noncomputable abbrev I1:List IS:=[.ex (.pop (.nm 3))]
noncomputable abbrev De:List IS:=[.asg 5 (.call 22 66 [(.nm 0),(.sub (.nm 2) (.c (.int 1))),(.lst [(.pop (.nm 3))])]),.ife (.bop .Or [(.cmp .NotEq (.sub (.nm 2) (.c (.int 1))) (.gl 23 172)),(.cmp .NotEq (.nm 5) (.tup [(.c (.str "gives")),(.lst [])]))]) [(.ret (.tup [(.c (.str "call")),(.lst [(.nm 5)])]))] []]
noncomputable abbrev T6:List IS:=[.wObj 0 [(26,90),(27,91),(28,92),(29,93)] [(.c (.int 0)),(.c (.int 0)),(.c (.int 0)),(.c (.int 0))],.asg 6 (.bin .Sub (.bi 11 .len (.wk (.nm 0) .objs)) (.c (.int 1))),.asg 5 (.call 22 66 [(.nm 0),(.gl 25 109),(.lst [(.nm 6),(.pop (.nm 3))])]),.ife (.cmp .NotEq (.nm 5) (.tup [(.c (.str "gives")),(.lst [])])) [(.ret (.tup [(.c (.str "walker")),(.lst [(.nm 5)])]))] [],.ex (.app (.nm 3) (.nm 6))]
noncomputable abbrev Lk:List IS:=[.ex (.pop (.nm 3)),.ex (.app (.nm 3) (.sub (.meth (.attr (.wk (.nm 0) .store) 42) 49 2 [(.sub (.nm 2) (.c (.int 0)))]) (.c (.int 1))))]
noncomputable abbrev Up:List IS:=[.asg 7 (.pop (.nm 3)),.ret (.call 30 68 [(.nm 1),(.nm 2),(.nm 3),(.pop (.nm 3)),(.nm 7),(.nm 4)])]
noncomputable abbrev Ze9 (op:Operator):List IS:=[.ex (.app (.nm 2) (.bin op (.nm 3) (.nm 4))),.ret (.nm 5)]
noncomputable abbrev Ze6:List IS:=[.ex (.app (.nm 2) (.ite (.cmp .Eq (.nm 3) (.nm 4)) (.c (.int 1)) (.c (.int 0)))),.ret (.nm 5)]
noncomputable abbrev Ze7 (op:CmpOp):List IS:=[.ret (.ite (.cmp op (.nm 3) (.nm 4)) (.nm 1) (.nm 5))]
noncomputable abbrev m32 (j:Nat):IE:= .bin .Mod (.nm j) (.bin .Pow (.c (.int 2)) (.c (.int 32)))
noncomputable abbrev Df (op:CmpOp):List IS:=[.ret (.ite (.cmp op (m32 3) (m32 4)) (.nm 1) (.nm 5))]
section
theorem Zrj(b:Bool):(b == true)=b:=by cases b <;> rfl
theorem Zri(b:Bool):(b == false)= !b:=by cases b <;> rfl
variable{Z:Vz}{st st' cl cl':List D}{w w' w1:Wd}{ip k:Nat}{op:Int}{x:D}{σ σ1:St}{lo':Zd}{v:V}
theorem Gp{T:Tb}{fns:Nat→Option Fn}{d f:Nat}{F:Fn}{args:List V}{r:Res}(h:fns f=some F)(k:Rd T (run T fns d) F args σ=r):run T fns (d + 1) f args σ=r:=(Mp h).trans k
theorem Rs(h:Z.X7.exs (Z.LR op x ip none none none) f67.body σ (.ret v) lo' σ1):Z.R 2 67 [.loc .w,.dat (.int op),.dat x,.loc (.id (Z.n + 1)),.dat (.int ip)] σ=some (v,σ1):=
 Gp (F:=f67) (by kernel_rfl) (Tp (fl:= .ret v) rfl h rfl)
theorem Oo{a b:D}{bs:List IS}{m:Nat}(e:Zpy Z op x bs m)(h:Z.X8.exs (Z.LS op x a b ip) bs σ (.ret v) lo' σ1):Z.R 1 68 [.dat (.int op),.dat x,.loc (.id (Z.n + 1)),.dat a,.dat b,.dat (.int ip)] σ=some (v,σ1):=
 Gp (F:=f68) (by kernel_rfl) (Tp (fl:= .ret v) rfl ((e a b ip σ).trans (Zoe h)) rfl)
variable(H:Iy Z)(hip:ip < 100000)
include H hip
theorem It{bs:List IS}{a b c:Option V}(el:Ty Z op x Xq)(e7:E1 Z op x bs)(hr:Ze Z ip op x)(h:Z.X7.exs (Z.LR op x (ip + 1) none none none) bs (Z.S st cl w) .next (Z.LR op x (ip + 1) a b c) (Z.S st' cl' w')):Xo Z ip st cl w (ip + 1) st' cl' w':=
 N3 H hip el hr (Rs ((e7 _ _).trans ((Zqz h).trans rfl)))
theorem Aj{bs:List IS}{t:Nat}(el:Ty Z op x Xq)(e7:E1 Z op x bs)(hr:Ze Z ip op x)(h:Z.X7.exs (Z.LR op x (ip + 1) none none none) bs (Z.S st cl w) (.ret (.dat (.int t))) lo' (Z.S st' cl' w')):Xo Z ip st cl w t st' cl' w':=
 N3 H hip el hr (Rs ((e7 _ _).trans (Zoe h)))
theorem Zyk{bs:List IS}{xs:List D}(el:Ty Z op x Xq)(e7:E1 Z op x bs)(hr:Ze Z ip op x)(h:Z.X7.exs (Z.LR op x (ip + 1) none none none) bs (Z.S st cl w) (.ret (.dat (.tuple xs))) lo' σ1):Le Z ip st cl w (.dat (.tuple xs)) σ1:=
 Za6 H hip el hr (Rs ((e7 _ _).trans (Zoe h)))
theorem Yiv{t:Nat}(hr:Ze Z ip 56 (.int t)):Xo Z ip st cl w t st cl w:=N3 H hip (fun ip l σ=>by kernel_rfl) hr (Rs (lo':=Z.LR 56 (.int t) (ip + 1) none none none) (show kSs Z.T (Z.R 1) 0 f67.body (Z.LR 56 (.int t) (ip + 1) none none none) (Z.S st cl w)=some _ by kernel_rfl))
theorem Zo4(hr:Ze Z ip 105 x):Xo Z ip st cl w (ip + 1) st cl w:=N3 H hip (fun ip l σ=>by kernel_rfl) hr (Rs (lo':=Z.LR 105 x (ip + 1) none none none) (show kSs Z.T (Z.R 1) 0 f67.body (Z.LR 105 x (ip + 1) none none none) (Z.S st cl w)=some _ by kernel_rfl))
theorem Zyg{a:Int}{xs:List Int}(hl:Fit' k (.int a::st))(hr:Ze Z ip 142 x)(h:Zc w.arr a=some xs)(hx:xs.length≤100000):Xo Z ip (.int a::st) cl w (ip + 1) (.int xs.length::st) cl w:=
 It (bs:=Ze8) H hip (fun ip l σ=>by kernel_rfl) (fun ip σ=>by kernel_rfl) hr (Zk (Xd H hl.pop (Q2 (Yh (Rj rfl rfl) (Z3 H hl rfl) (Rf (w:=w) rfl h)) (Kz (w:=w) rfl h hx)) rfl))
theorem Zyi(hl:Fit' k st)(hr:Ze Z ip 114 x):Xo Z ip st cl w (ip + 1) (.int 0::st) cl w:=
 It (bs:=Zea) H hip (fun ip l σ=>by kernel_rfl) (fun ip σ=>by kernel_rfl) hr (Zk (Xd H hl rfl rfl))
theorem Zyc{e:D}(hl:Fit' k (e::st))(hr:Ze Z ip 140 x):Xo Z ip (e::st) cl w (ip + 1) (.tuple [.str "box",e]::st) cl w:=
 It (bs:=Ze5) H hip (fun ip l σ=>by kernel_rfl) (fun ip σ=>by kernel_rfl) hr (Zk (Xd H hl.pop (Ip (Zf (v:= .dat (.str "box")) rfl (Zf (Z3 H hl rfl) rfl)) rfl rfl) rfl))
omit H hip in
theorem Zte{σ:St}{e:D}{b:Bool}(h:nz Z.fx e=some b):Zq3 Z.T .NotEq (.dat e) (.dat (.int 0)) σ=some b:=by
 cases e with
 |int i=>exact h
 |tuple l=>exact Zl h fun hs h=>Uz ((congrArg (· &&true) hs).trans rfl) ((show Q5 (some false)=some true from rfl).trans h)
 |_=>exact nn h
omit hip in
theorem Ygs{t b c:Bool}{e:D}{lo:Zd}(hl:Fit' k (e::st))(h3:lo[3]? =some (some (.loc (.id (Z.n + 1)))))(h1:Z.X7.ev lo (.cmp .Eq (.nm 1) (.gl 14 13)) (Z.S st cl w) (.dat (.bool t)) (Z.S st cl w))(hb:(b == t)=c)(h:nz Z.fx e=some b):Z.X7.ev lo (.cmp .Eq (.cmp .NotEq (.pop (.nm 3)) (.c (.int 0))) (.cmp .Eq (.nm 1) (.gl 14 13))) (Z.S (e::st) cl w) (.dat (.bool c)) (Z.S st cl w):=
 X1 (x:= .dat (.bool b)) (X1 (x:= .dat e) (y:= .dat (.int 0)) (Z3 H hl h3) rfl (Zte h)) h1 (by rw[← hb];cases b <;> cases t <;> kernel_rfl)
theorem Zye{t:Nat}{e:D}{b:Bool}(hl:Fit' k (e::st))(hr:Ze Z ip 58 (.int t))(h:nz Z.fx e=some b):Xo Z ip (e::st) cl w (bp b t (ip + 1)) st cl w:=by
 have z:=Ygs (t:=true) (cl:=cl) (w:=w) (lo:=Z.LR 58 (.int t) (ip + 1) none none none) H hl rfl (X1 (x:= .dat (.int 58)) (y:= .dat (.int 58)) rfl (by unfold Xv.ev;kernel_rfl) (by kernel_rfl)) (Zrj b) h;cases b with
 |true=>exact Aj (bs:=On) H hip (fun ip l σ=>by kernel_rfl) (fun ip σ=>by kernel_rfl) hr (Zk (Q1 z (Zk (Y7 (Zg rfl)))))
 |false=>exact It (bs:=On) H hip (fun ip l σ=>by kernel_rfl) (fun ip σ=>by kernel_rfl) hr (Zk (Q1 z rfl))
theorem Zyd{t:Nat}{e:D}{b:Bool}(hl:Fit' k (e::st))(hr:Ze Z ip 57 (.int t))(h:nz Z.fx e=some b):Xo Z ip (e::st) cl w (bp b (ip + 1) t) st cl w:=by
 have z:=Ygs (t:=false) (cl:=cl) (w:=w) (lo:=Z.LR 57 (.int t) (ip + 1) none none none) H hl rfl (X1 (x:= .dat (.int 57)) (y:= .dat (.int 58)) rfl (by unfold Xv.ev;kernel_rfl) (by kernel_rfl)) (Zri b) h;cases b with
 |false=>exact Aj (bs:=On) H hip (fun ip l σ=>by kernel_rfl) (fun ip σ=>by kernel_rfl) hr (Zk (Q1 z (Zk (Y7 (Zg rfl)))))
 |true=>exact It (bs:=On) H hip (fun ip l σ=>by kernel_rfl) (fun ip σ=>by kernel_rfl) hr (Zk (Q1 z rfl))
theorem Ai{v:Int}(hl:Fit' k (.int v::st))(hr:Ze Z ip 122 x):Le Z ip (.int v::st) cl w (.dat (.tuple [.str "throws",.list [.int v]])) (Z.S st cl w):=
 Zyk (bs:=I2) H hip (fun ip l σ=>by kernel_rfl) (fun ip σ=>by kernel_rfl) hr (Zk (Y7 (Ip (Zf (v:= .dat (.str "throws")) rfl (Zf (Im (Z3 H hl rfl)) rfl)) rfl rfl)))
theorem Ah{e:D}(hl:Fit' k (e::st))(hr:Ze Z ip 40 (.tuple [.int 12,.int 1,.tuple []])):Xo Z ip (e::st) cl w (ip + 1) st cl w:=
 It (bs:=I1) H hip (fun ip l σ=>by kernel_rfl) (fun ip σ=>by kernel_rfl) hr (Zk (Zaj (Z3 H hl rfl)))
end
theorem Oz{α:Type}{g:D}{x:Option α}{r:α}(h:Kd g x=some r){M:D→Prop}(k:x=some r→M (.tuple [.str "gives",.list []])):M g:=
 Mf h fun l h=>Wu (M:=fun l=>M (.tuple l)) h fun a t h=>Wu (M:=fun t=>M (.tuple (a::t))) h fun b t h=>Fc (M:=fun t=>M (.tuple (a::b::t))) h fun h=>Zrq (M:=fun a=>M (.tuple [a,b])) h fun s h=>Zq4 (M:=fun b=>M (.tuple [.str s,b])) h fun y h=>Fc (M:=fun y=>M (.tuple [.str s,.list y])) h fun h=>Zl h fun h1 h=>of_decide_eq_true h1 ▸ k h
section
variable{X:Xv}{lo:Zd}{σ σ1:St}{w:Wd}
theorem Zak{j:Nat}{e:IE}{m a:Int}(hw:isW lo j=some ())(h1:X.ev lo e σ (.dat (.int m)) σ1)(hs:σ1.w=some w)(h2:leN m 1000=true)(h3:Ws w.bnd=true)(h4:Tt w.narr 1=some a):
 X.ex lo (.wArr j e) σ .next lo {σ1 with w:=some {w with arr:=(w.narr,List.replicate m.toNat 0)::w.arr,narr:=a,bnd:=w.bnd + 1}}:=
 show Zr0 j (X.c e) lo σ=_ from Z5 hw (Yhf h1 (Z5 hs (Uz (by rw[F5 h2,h3];rfl) (show newArr _ _ _ _=_ from Z5 h4 rfl))))
theorem Zal{j:Nat}{ks:List (Nat×Nat)}{es:List IE}{vs:List V}{is l:List Int}{m:Int}(hw:isW lo j=some ())(hk:U4 X.T ks=some is)(h1:X.evs lo es σ vs σ1)(hs:σ1.w=some w)(h2:Sy vs=some l)
 (h3:(Nat.beq is.length l.length&&(Ws w.bnd&&Vh is))=true) (h6:Tt w.nobj 1=some m):
 X.ex lo (.wObj j ks es) σ .next lo {σ1 with w:=some {w with obj:=(w.nobj,is.zip l)::w.obj,nobj:=m,bnd:=w.bnd + 1}}:=
 show Zr3 X.T j ks (eEs (kEs X.T X.cf X.md es)) lo σ=_ from Z5 hw (Z5 hk (W4 h1 (Z5 h2 (Z5 hs (Uz h3 (Z5 h6 rfl))))))
theorem N8{a b:IE}{x y z:Int}{σ2:St}(h1:X.ev lo a σ (.dat (.int x)) σ1)(h2:X.ev lo b σ1 (.dat (.int y)) σ2)(h3:G3 x y=some z):X.ev lo (.bin .Sub a b) σ (.dat (.int z)) σ2:=N7 h1 h2 (Z5 h3 rfl)
end
abbrev W66(mid:Int)(l:List D):List V:=[.loc .w,.dat (.int mid),.dat (.list l)]
section
variable{Z:Vz}{st st' cl cl':List D}{w w' w1:Wd}{ip k:Nat}{op:Int}{x:D}{σ σ1:St}{lo':Zd}{v:V}
section
variable(H:Iy Z)(hip:ip < 100000)
include H hip
theorem Gh{m a b:Int}(hl:Fit' k (.int m::st))(hr:Ze Z ip 141 x)(h2:leN m 1000=true)(h3:Ws w.bnd=true)(h4:Tt w.narr 1=some a)(h5:G3 a 1=some b):
 Xo Z ip (.int m::st) cl w (ip + 1) (.int b::st) cl {w with arr:=(w.narr,List.replicate m.toNat 0)::w.arr,narr:=a,bnd:=w.bnd + 1}:=
 It (bs:=Lj) H hip (fun ip l σ=>by kernel_rfl) (fun ip σ=>by kernel_rfl) hr (Zi (Zak (w:=w) rfl (Z3 H hl rfl) rfl h2 h3 h4)
  (Zk (Xd (st:=st) (w:={w with arr:=(w.narr,List.replicate m.toNat 0)::w.arr,narr:=a,bnd:=w.bnd + 1}) H hl.pop (N8 (x:=a) (y:=1) (Q2 (k:=a) (Rj rfl rfl) rfl) rfl h5) rfl)))
theorem Zo5{e:D}(hl:Fit' k (e::st))(hr:Ze Z ip 40 (.tuple [.int 18,.int 206,.tuple []]))(h:Z.R 1 66 (W66 206 [e]) (Z.S st cl w)=some (.dat (.tuple [.str "gives",.list []]),Z.S st cl w1)):
 Xo Z ip (e::st) cl w (ip + 1) st cl w1:=
 It (bs:=De) (a:=some (.dat (.tuple [.str "gives",.list []]))) H hip (fun ip l σ=>by kernel_rfl) (fun ip σ=>by kernel_rfl) hr (Zi (Yg (Tr (Zf (Zg rfl) (Zf (Yh (v:= .dat (.int 206)) (Zg rfl) rfl rfl) (Zf (Im (Z3 H hl rfl)) rfl))) h) rfl)
  (Zk (Tq (show(kE _ _ _ _).1 _ _=some _ by kernel_rfl))))
theorem J1{y e:D}{m e':Int}(hl:Fit' k (e::st))(hr:Ze Z ip 115 (.tuple [y,.int 134,.tuple []]))(h1:Ws w.bnd=true)(h2:Tt w.nobj 1=some m)(h3:G3 m 1=some e')
 (h:Z.R 1 66 (W66 134 [.int e',e]) (Z.S st cl {w with obj:=(w.nobj,[(20,0),(21,0),(22,0),(23,0)])::w.obj,nobj:=m,bnd:=w.bnd + 1})=some (.dat (.tuple [.str "gives",.list []]),Z.S st cl w1)):
 Xo Z ip (e::st) cl w (ip + 1) (.int e'::st) cl w1:=
 It (bs:=T6) (a:=some (.dat (.tuple [.str "gives",.list []]))) (b:=some (.dat (.int e'))) H hip (fun ip l σ=>by kernel_rfl) (fun ip σ=>by kernel_rfl) hr
  (Zi (Zal (w:=w) (is:=[20,21,22,23]) (l:=[0,0,0,0]) (m:=m) rfl (by kernel_rfl) (Zf rfl (Zf rfl (Zf rfl (Zf rfl rfl)))) rfl rfl (by rw[h1];kernel_rfl) h2)
  (Zi (Yg (N8 (x:=m) (y:=1) (Q2 (k:=m) (Rj rfl rfl) rfl) rfl h3) rfl)
  (Zi (Yg (Tr (Zf (Zg rfl) (Zf (Zpr (v:= .dat (.int 134)) (by kernel_rfl)) (Zf (Zan (Zg rfl) (Z3 (w:={w with obj:=(w.nobj,[(20,0),(21,0),(22,0),(23,0)])::w.obj,nobj:=m,bnd:=w.bnd + 1}) H hl rfl)) rfl))) h) rfl)
  (Zi (Tq (show(kE _ _ _ _).1 _ _=some _ by kernel_rfl)) (Zk (Xd H hl.pop (Zg rfl) rfl))))))
theorem Nr{a b:D}{ip':Nat}{st':List D}(hl:Fit' k (b::a::st))(el:Ty Z op x Xq)(e7:E1 Z op x Up)(hr:Ze Z ip op x)
 (h:Z.R 1 68 [.dat (.int op),.dat x,.loc (.id (Z.n + 1)),.dat a,.dat b,.dat (.int ((ip + 1:Nat):Int))] (Z.S st cl w)=some (.dat (.int ip'),Z.S st' cl w)):Xo Z ip (b::a::st) cl w ip' st' cl w:=
 Aj H hip el e7 hr (Zi (Yg (Z3 H hl rfl) rfl) (Zk (Y7 (Tr (Zf (Zg rfl) (Zf (Zg rfl) (Zf (Zg rfl) (Zf (Z3 H hl.pop rfl) (Zf (Zg rfl) (Zf (Zg rfl) rfl)))))) h))))
theorem Zo6{o:Operator}{i j c:Int}{m:Nat}(hl:Fit' k (.int j:: .int i::st))(el:Ty Z op x Xq)(e7:E1 Z op x Up)(e8:Zpy Z op x (Ze9 o) m)(hr:Ze Z ip op x)(h:Zay Z.fx o i j=some c):Xo Z ip (.int j:: .int i::st) cl w (ip + 1) (.int c::st) cl w:=
 Nr H hip hl el e7 hr (Oo e8 (Zi (Xd H hl.pop.pop (N7 (Zg rfl) (Zg rfl) (Z5 h rfl)) rfl) (Zk (Y7 (Zg rfl)))))
theorem Zyj{i j c:Int}(hl:Fit' k (.int j:: .int i::st))(hr:Ze Z ip 89 x)(h:G3 i j=some c):Xo Z ip (.int j:: .int i::st) cl w (ip + 1) (.int c::st) cl w:=
 Zo6 (o:= .Sub) (m:=1) H hip hl (fun ip l σ=>by kernel_rfl) (fun ip σ=>by kernel_rfl) (fun a b ip σ=>by kernel_rfl) hr h
theorem Zyh{i j c:Int}(hl:Fit' k (.int j:: .int i::st))(hr:Ze Z ip 90 x)(h:Zay Z.fx .Mult i j=some c):Xo Z ip (.int j:: .int i::st) cl w (ip + 1) (.int c::st) cl w:=
 Zo6 (o:= .Mult) (m:=2) H hip hl (fun ip l σ=>by kernel_rfl) (fun ip σ=>by kernel_rfl) (fun a b ip σ=>by kernel_rfl) hr h
theorem Zyf{u v:List D}{t:Bool}(hl:Fit' k (.tuple v:: .tuple u::st))(hr:Ze Z ip 111 (.tuple [.int 12,.int 3,.tuple []]))(h1:(shp (.tuple u)&&shp (.tuple v))=true)(h:eqD Z.fx (.tuple u) (.tuple v)=some t):Xo Z ip (.tuple v:: .tuple u::st) cl w (ip + 1) (.int (bp t 1 0)::st) cl w:=
 Nr H hip hl (fun ip l σ=>by kernel_rfl) (fun ip σ=>by kernel_rfl) hr (Oo (bs:=Ze6) (m:=3) (fun a b ip σ=>by kernel_rfl) (Zi (Xd (d:= .int (bp t 1 0)) H hl.pop.pop (Il (c:=t) (X1 (op:= .Eq) (x:= .dat (.tuple u)) (y:= .dat (.tuple v)) (Zg rfl) (Zg rfl) (Uz h1 h)) (by cases t <;> rfl)) rfl) (Zk (Y7 (Zg rfl)))))
theorem Ag{o:CmpOp}{m:Nat}{i j:Int}{b:Bool}{t:Nat}(hl:Fit' k (.int j:: .int i::st))(el:Ty Z op (.int t) Xq)(e7:E1 Z op (.int t) Up)(e8:Zpy Z op (.int t) (Ze7 o) m)(hr:Ze Z ip op (.int t))(h:Zq2 Z.fx o i j=some b):Xo Z ip (.int j:: .int i::st) cl w (bp b t (ip + 1)) st cl w:=
 Nr H hip hl el e7 hr (Oo e8 (Zk (Y7 (Il (c:=b) (X1 (x:= .dat (.int i)) (y:= .dat (.int j)) (Zg rfl) (Zg rfl) h) (by cases b <;> exact Zg rfl)))))
theorem Zyb{i j:Int}{t:Nat}{b:Bool}(hl:Fit' k (.int j:: .int i::st))(hr:Ze Z ip 63 (.int t))(h:ltC Z.fx i j=some b):Xo Z ip (.int j:: .int i::st) cl w (bp b t (ip + 1)) st cl w:=
 Ag (o:= .Lt) (m:=4) H hip hl (fun ip l σ=>by kernel_rfl) (fun ip σ=>by kernel_rfl) (fun a b ip σ=>by kernel_rfl) hr h
theorem Zya{i j:Int}{t:Nat}{b:Bool}(hl:Fit' k (.int j:: .int i::st))(hr:Ze Z ip 62 (.int t))(h:Q5 (ltC Z.fx j i)=some b):Xo Z ip (.int j:: .int i::st) cl w (bp b t (ip + 1)) st cl w:=
 Ag (o:= .LtE) (m:=5) H hip hl (fun ip l σ=>by kernel_rfl) (fun ip σ=>by kernel_rfl) (fun a b ip σ=>by kernel_rfl) hr h
theorem Zy9{i j:Int}{t:Nat}{b:Bool}(hl:Fit' k (.int j:: .int i::st))(hr:Ze Z ip 59 (.int t))(h:eqC Z.fx i j=some b):Xo Z ip (.int j:: .int i::st) cl w (bp b t (ip + 1)) st cl w:=
 Ag (o:= .Eq) (m:=6) H hip hl (fun ip l σ=>by kernel_rfl) (fun ip σ=>by kernel_rfl) (fun a b ip σ=>by kernel_rfl) hr h
end
end
theorem K8{i x:Int}(h:Ir i=some x){P:Prop}(k:Yo x=true→(∀Φ,Zay Φ .Mod i 4294967296=some x)→P):P:=Zl h fun hs h=>by
 have hl:Yo (i.fmod 4294967296)=true:=(Int.eq_ofNat_of_zero_le (Int.fmod_nonneg_of_pos i (by decide))).elim fun n hn=>hn ▸ Wt (Nat.lt_trans (Int.ofNat_lt.mp (hn ▸ Int.fmod_lt_of_pos i (by decide):(n:Int) < (4294967296:Nat))) (by decide));rw[← sj h] at k;exact k hl fun Φ=>by
  show bp (small i&&small 4294967296) _ _=_;rw[hs];exact Uz hl rfl
theorem Zgu{Φ:List Fact}{i j:Int}{b:Bool}(h:ltU i j=some b){P:Prop}(k:∀x y,Ir i=some x→Ir j=some y→ltC Φ x y=some b→P):P:=
 Za (x:=Ir i) h fun x h1 h=>Za (x:=Ir j) h fun y h2 h=>k x y h1 h2 (K8 h1 fun l1 _=>K8 h2 fun l2 _=>(K3 (Y1 l1) (Y1 l2)).trans h)
noncomputable def Qc (old:Nat→Option O) (k c p:Nat):Option Nat:=Pv (old k) fun c' vs=>gd (Nat.beq c c') (ob vs[p]? fun v=>vI v some)
theorem U8{old:Nat→Option O}{k c p m:Nat}(h:Qc old k c p=some m){P:Prop}(f:∀vs,old k=some (.inst c vs)→vs[p]? =some (.loc (.id m))→P):P:=
 Td h fun c' vs e h=>Zl h fun h1 h=>Za h fun v h2 h=>Zpo (M:=fun v=>vs[p]? =some v→P) h (fun n h h2=>f vs (Nat.eq_of_beq_eq_true h1 ▸ e) (sj h ▸ h2)) h2
noncomputable def Gm (old:Nat→Option O) (k:Nat) (v:Int):Option Unit:=Zmw (old 4) fun rv=>gd (Nat.ble rv.length 100000&&Nat.blt k 1000) (ob rv.reverse[k]? fun x=>vD x fun d=>dT d fun l=>c1 l fun _ r=>c1 r fun u _=>dZ u fun i=>gd (decide (i=v)) (some ()))
theorem Am{old:Nat→Option O}{k:Nat}{v:Int}(h:Gm old k v=some ()){P:Prop}(f:∀rv y r,old 4=some (.rev rv)→rv.length≤100000→k < 1000→rv.reverse[k]? =some (.dat (.tuple (y:: .int v::r)))→P):P:=
 Ni h fun rv e h=>Zl h fun h1 h=>Za h fun x h2 h=>Rh (M:=fun x=>rv.reverse[k]? =some x→P) h (fun d h=>Mf (M:=fun d=>rv.reverse[k]? =some (.dat d)→P) h fun l h=>Wu (M:=fun l=>rv.reverse[k]? =some (.dat (.tuple l))→P) h fun y t h=>Wu (M:=fun t=>rv.reverse[k]? =some (.dat (.tuple (y::t)))→P) h fun u r h=>
  Vf (M:=fun u=>rv.reverse[k]? =some (.dat (.tuple (y::u::r)))→P) h fun i h h2=>Zl h fun hi _=>f rv y r e (Nat.le_of_ble_eq_true (a2 h1).1) (Zz (a2 h1).2) (of_decide_eq_true hi ▸ h2)) h2
structure Zdm(old:Nat→Option O):Prop where
 st:Qc old 2 5 0=some 3
 kt:Qc old 3 0 0=some 4
section
variable{Z:Vz}{st cl:List D}{w:Wd}{ip k:Nat}
theorem Io{X:Xv}{lo:Zd}{j:Nat}{i y:Int}{σ:St}(h:lo[j]? =some (some (.dat (.int i))))(hm:Ir i=some y):X.ev lo (m32 j) σ (.dat (.int y)) σ:=
 N7 (y:= .dat (.int 4294967296)) (Zg h) (show(kE _ _ _ (.bin .Pow (.c (.int 2)) (.c (.int 32)))).1 lo σ=_ by kernel_rfl) (K8 hm fun _ z=>Z5 (z _) rfl)
theorem D5(K:Zdm Z.old){i:Nat}{v:V}{rv:List V}(r1:Z.old 4=some (.rev rv))(r3:rv.length≤100000)(r4:i < 1000)(r2:rv.reverse[i]? =some v):Z.R 1 2 [.loc (.id 3),.dat (.int i)] (Z.S st cl w)=some (v,Z.S st cl w):=
 U8 K.kt fun us k1 k2=>by
 have at0:Xv.ev ⟨Z.T,Z.R 0,2⟩ [some (.loc (.id 3)),some (.dat (.int i))] (.attr (.nm 0) 0) (Z.S st cl w) (.loc (.id 4)) (Z.S st cl w):=V7 (c:=0) (p:=0) (Zg rfl) ((Zb1 (by decide)).trans k1) rfl k2;have r1:Zj Z.old (Z.S st cl w) 4=some (.rev rv):=(Zb1 (by decide)).trans r1;have lt:i < rv.length:=List.length_reverse ▸ (List.getElem?_eq_some_iff.mp r2).1
 exact Gp (F:=f2) (by kernel_rfl) (Tp (fl:= .ret v) rfl (Zi (Tq (Ey (X1 (x:= .dat (.int i)) (y:= .dat (.int 0)) (Zg rfl) rfl (lt0 (Nat.le_of_lt r4))) (X1 (op:= .GtE) (x:= .dat (.int i)) (y:= .dat (.int rv.length)) (Zg rfl) (Q2 at0 (show ob _ _=_ from Z5 r1 (Uz (szL r3) rfl))) (show Q5 (ltC Z.fx i rv.length)=some false by rw[Zgt (Nat.le_of_lt r4) r3 lt];rfl))))
  (Zk (Y7 (Yh at0 (Zg rfl) (Ie r1 (Nat.le_trans (Nat.le_of_lt r4) (by decide)) r2))))) rfl)
variable(H:Iy Z)(hip:ip < 100000)
include H hip
theorem Eg{op:Int}{o:CmpOp}{m:Nat}{i j x y:Int}{b:Bool}{t:Nat}(hl:Fit' k (.int j:: .int i::st))(el:Ty Z op (.int t) Xq)(e7:E1 Z op (.int t) Up)(e8:Zpy Z op (.int t) (Df o) m)(hr:Ze Z ip op (.int t))(hx:Ir i=some x)(hy:Ir j=some y)(h:Zq2 Z.fx o x y=some b):Xo Z ip (.int j:: .int i::st) cl w (bp b t (ip + 1)) st cl w:=
 Nr H hip hl el e7 hr (Oo e8 (Zk (Y7 (Il (c:=b) (X1 (x:= .dat (.int x)) (y:= .dat (.int y)) (Io rfl hx) (Io rfl hy) h) (by cases b <;> exact Zg rfl)))))
theorem Zo3{i j:Int}{t:Nat}{b:Bool}(hl:Fit' k (.int j:: .int i::st))(hr:Ze Z ip 68 (.int t))(h:ltU i j=some b):Xo Z ip (.int j:: .int i::st) cl w (bp b t (ip + 1)) st cl w:=Zgu (Φ:=Z.fx) h fun x y hx hy hz=>
 Eg (o:= .Lt) (m:=7) H hip hl (fun ip l σ=>by kernel_rfl) (fun ip σ=>by kernel_rfl) (fun a b ip σ=>by kernel_rfl) hr hx hy hz
theorem Zo2{i j:Int}{t:Nat}{b:Bool}(hl:Fit' k (.int j:: .int i::st))(hr:Ze Z ip 67 (.int t))(h:Q5 (ltU j i)=some b):Xo Z ip (.int j:: .int i::st) cl w (bp b t (ip + 1)) st cl w:=Za (x:=ltU j i) h fun c hc h=>Zgu (Φ:=Z.fx) hc fun y x hy hx hz=>
 Eg (o:= .LtE) (m:=8) H hip hl (fun ip l σ=>by kernel_rfl) (fun ip σ=>by kernel_rfl) (fun a b ip σ=>by kernel_rfl) hr hx hy ((congrArg Q5 hz).trans h)
theorem Gi{i:Nat}{m v:Int}{e:D}(hl:Fit' k (e::st))(K:Zdm Z.old)(hk:Gm Z.old i v=some ())(hw:w.sid=2)(hr:Ze Z ip 115 (.tuple [.int i,.int m,.tuple []]))(hm:eqC Z.fx m 134=some false):
 Xo Z ip (e::st) cl w (ip + 1) (.int v::st) cl w:=Am hk fun rv y r r1 r3 r4 r2=>U8 K.st fun vs s1 s2=>U8 K.kt fun us k1 k2=>
 It (bs:=[.ife (.bop .And [(.cmp .Eq (.nm 1) (.gl 24 25)),(.cmp .Eq (.sub (.nm 2) (.c (.int 1))) (.gl 25 109))]) T6 [.ife (.cmp .Eq (.nm 1) (.gl 24 25)) Lk Up]]) H hip (fun ip l σ=>by kernel_rfl) (fun ip σ=>by kernel_rfl) hr
  (Zk (Q1 (t:=false) (σ1:=Z.S (e::st) cl w) (Zam (σ1:=Z.S (e::st) cl w) (show(kE _ _ _ (.cmp .Eq (.nm 1) (.gl 24 25))).1 _ _=_ by kernel_rfl) (X1 (x:= .dat (.int m)) (y:= .dat (.int 134)) (Yh (Zg rfl) rfl rfl) (Zpr (by kernel_rfl)) hm)) (Zk (Q1 (t:=true) (σ1:=Z.S (e::st) cl w) (show(kE _ _ _ (.cmp .Eq (.nm 1) (.gl 24 25))).1 _ _=_ by kernel_rfl)
  (Zi (Zaj (Z3 H hl rfl)) (Zk (Xd H hl.pop (Yh (Zao (k:=3) (c:=0) (V7 (c:=5) (p:=0) (Rj rfl rfl) (hw ▸ (Zb1 (by decide)).trans s1) rfl s2) ((Zb1 (by decide)).trans k1) rfl (Zf (Yh (v:= .dat (.int i)) (Zg rfl) rfl rfl) rfl) (D5 K r1 r3 r4 r2)) rfl rfl) rfl)))))))
end
noncomputable def isI (d:D) (k:Int):Option Unit:=dZ d fun i=>gd (decide (i=k)) (some ())
noncomputable def t3 (d:D) (f:D→D→Option Unit):Option Unit:=dT d fun l=>c1 l fun x r=>c1 r fun y r=>c1 r fun z r=>c0 r (dT z fun q=>c0 q (f x y))
noncomputable def isF (d:D) (k:Int):Option Unit:=dT d fun l=>c1 l fun _ r=>c1 r fun u _=>gd (Yo k) (isI u k)
noncomputable def isX (d:D) (x:Nat):Option Unit:=gd (Nat.ble x 1000) (isI d x)
noncomputable def Zy1 (i:Ins):Int:=Ins.rec (fun _=>65033) (fun _=>123) (fun _=>65036) (fun _=>32) 88 (fun _=>125) 163 164 (fun _=>65038) 42 (fun _=>56) 105 142 114 140 (fun _=>58) (fun _=>57) 141 122 40 40 115 (fun _=>115) 89 90 111 (fun _=>63) (fun _=>62) (fun _=>59) (fun _=>68) (fun _=>67) i
noncomputable def xOk (old:Nat→Option O) (d:D) (i:Ins):Option Unit:=Ins.rec (isX d) (isF d) (isX d) (isI d) (some ()) (isF d) (some ()) (some ()) (isX d) (some ()) (fun t=>isI d t) (some ()) (some ()) (some ()) (some ()) (fun t=>isI d t) (fun t=>isI d t) (some ()) (some ())
 (t3 d fun x y=>ob (isI x 12) fun _=>isI y 1) (t3 d fun x y=>ob (isI x 18) fun _=>isI y 206) (t3 d fun _ y=>isI y 134) (fun v=>t3 d fun x y=>dZ x fun i=>iN i fun k=>dZ y fun m=>gd (Yo m&& !eqB m 134) (Gm old k v))
 (some ()) (some ()) (t3 d fun x y=>ob (isI x 12) fun _=>isI y 3) (fun t=>isI d t) (fun t=>isI d t) (fun t=>isI d t) (fun t=>isI d t) (fun t=>isI d t) i
noncomputable def Gn (old:Nat→Option O) (row:V) (i:Ins):Option Unit:=vD row fun d=>dT d fun l=>c1 l fun a r=>c1 r fun x r=>c0 r (ob (isI a (Zy1 i)) fun _=>xOk old x i)
section
variable{d:D}{k:Int}{M:D→Prop}
@[elab_as_elim] theorem R6 (h:isI d k=some ()) (f:M (.int k)):M d:=Vf h fun i h=>Zl h fun h _=>of_decide_eq_true h ▸ f
@[elab_as_elim] theorem Cz {x:Nat} (h:isX d x=some ()) (f:x≤1000→M (.int x)):M d:=Zl h fun hx h=>R6 h (f (Nat.le_of_ble_eq_true hx))
@[elab_as_elim] theorem Zg2 (h:isF d k=some ()) (f:∀y r,Yo k=true→M (.tuple (y:: .int k::r))):M d:=Mf h fun l h=>Wu (M:=fun l=>M (.tuple l)) h fun y t h=>Wu (M:=fun t=>M (.tuple (y::t))) h fun u r h=>Zl h fun hl h=>R6 (M:=fun u=>M (.tuple (y::u::r))) h (f y r hl)
@[elab_as_elim] theorem Zza {g:D→D→Option Unit} (h:t3 d g=some ()) (f:∀x y,g x y=some ()→M (.tuple [x,y,.tuple []])):M d:=Mf h fun l h=>Wu (M:=fun l=>M (.tuple l)) h fun x t h=>Wu (M:=fun t=>M (.tuple (x::t))) h fun y t h=>Wu (M:=fun t=>M (.tuple (x::y::t))) h fun z t h=>Fc (M:=fun t=>M (.tuple (x::y::z::t))) h fun h=>
  Mf (M:=fun z=>M (.tuple [x,y,z])) h fun q h=>Fc (M:=fun q=>M (.tuple [x,y,.tuple q])) h fun h=>f x y h
@[elab_as_elim] theorem Ct {a b:Int} (h:(t3 d fun x y=>ob (isI x a) fun _=>isI y b)=some ()) (f:M (.tuple [.int a,.int b,.tuple []])):M d:=Zza h fun x y h=>Za h fun _ h1 h=>R6 (M:=fun x=>M (.tuple [x,y,.tuple []])) h1 (R6 (M:=fun y=>M (.tuple [.int a,y,.tuple []])) h f)
@[elab_as_elim] theorem Zod {old:Nat→Option O} {i:Ins} {row:V} (h:Gn old row i=some ()) {M:V→Prop} (f:∀x,xOk old x i=some ()→M (rw2 (Zy1 i) x)):M row:=Rh h fun d h=>Mf (M:=fun d=>M (.dat d)) h fun l h=>Wu (M:=fun l=>M (.dat (.tuple l))) h fun a t h=>Wu (M:=fun t=>M (.dat (.tuple (a::t)))) h fun x t h=>Fc (M:=fun t=>M (.dat (.tuple (a::x::t)))) h fun h=>
  Za h fun _ h1 h=>R6 (M:=fun a=>M (.dat (.tuple [a,x]))) h1 (f x h)
end
def X2(Z:Vz)(k ip:Nat)(st cl:List D)(w:Wd)(e:D)(w':Wd):Prop:=
 w'.sid=2∧∀(l:L7) (ds:List D),ds.length=k→∃lo' o1 o2,W9 (kSs Z.T (Z.R 2) 1 T4) (Yv 7) ds (Z.LO ip l) (Z.S st cl w)=some (.ret (.dat e),lo',⟨247,Z.n + 2,o1::o2::Z.tmp,some w'⟩)
def Yx(Z:Vz)(ip:Nat)(K:VK):Prop:=∀k st cl w e w',K k st cl w=some (e,w')→Fit' k st→w.sid=2→X2 Z k ip st cl w e w'
def La(Z:Vz)(call:Int→List D→Wd→VR'):Prop:=∀mid a w g w1,call mid a w=some (g,w1)→w.sid=2→w1.sid=2∧∀st cl,Z.R 1 66 (W66 mid a) (Z.S st cl w)=some (.dat g,Z.S st cl w1)
section
variable{Z:Vz}{k ip ip':Nat}{st cl st' cl':List D}{w w2 w':Wd}{e:D}
theorem Bi{f:Ye}{b:V→Zd→Option Zd}{x:D}{ds:List D}{lo lo1 lo2:Zd}{σ σ2:St}{r:Fl×Zd×St}(h:b (.dat x) lo=some lo1)(q:f lo1 σ=some (.next,lo2,σ2))(z:W9 f b ds lo2 σ2=some r):W9 f b (x::ds) lo σ=some r:=
 show ob (b (.dat x) lo) (fun lo1=>rs (f lo1 σ) (W9 f b ds))=_ from Z5 h ((Zqz q).trans z)
theorem Bj{f:Ye}{b:V→Zd→Option Zd}{x:D}{ds:List D}{lo lo1 lo2:Zd}{σ σ2:St}{v:V}(h:b (.dat x) lo=some lo1)(q:f lo1 σ=some (.ret v,lo2,σ2)):W9 f b (x::ds) lo σ=some (.ret v,lo2,σ2):=
 show ob (b (.dat x) lo) (fun lo1=>rs (f lo1 σ) (W9 f b ds))=_ from Z5 h (Zoe q)
theorem Zp(t:Xo Z ip st cl w ip' st' cl' w2)(g:X2 Z k ip' st' cl' w2 e w'):X2 Z (k + 1) ip st cl w e w':=⟨g.1,fun l ds hd=>by
 cases ds with
 |nil=>exact nomatch hd
 |cons x ds=>exact(t {l with a:=some (.dat x)}).elim fun l' q=>(g.2 l' ds (Nat.succ.inj hd)).elim fun lo' z=>⟨lo',z.elim fun o1 z=>⟨o1,z.elim fun o2 z=>⟨o2,Bi rfl q z⟩⟩⟩⟩
theorem Fm{o1 o2:O}(t:Le Z ip st cl w (.dat e) ⟨247,Z.n + 2,o1::o2::Z.tmp,some w'⟩)(hw:w'.sid=2):X2 Z (k + 1) ip st cl w e w':=⟨hw,fun l ds hd=>by
 cases ds with
 |nil=>exact nomatch hd
 |cons x ds=>exact(t {l with a:=some (.dat x)}).elim fun lo' q=>⟨lo',o1,o2,Bj rfl q⟩⟩
theorem Zn{f:VK}(h:∀k st cl w e w',f k st cl w=some (e,w')→Fit' (k + 1) st→w.sid=2→X2 Z (k + 1) ip st cl w e w'):Yx Z ip (Xf f):=fun k st cl w e w' q=>by
 cases k with
 |zero=>exact nn q
 |succ k=>exact h k st cl w e w' q
theorem Cd{b:Bool}{x y:VR'}{t:Nat}(h:bp b x y=some (e,w'))(f:x=some (e,w')→X2 Z k t st cl w e w')(g:y=some (e,w')→X2 Z k ip st cl w e w'):X2 Z k (bp b t ip) st cl w e w':=by
 cases b with
 |true=>exact f h
 |false=>exact g h
end
structure Zdl(Z:Vz)(call:Int→List D→Wd→VR')(J:Nat→VK)(K:VK)(ip:Nat):Prop where
 H:Iy Z
 T:Zdm Z.old
 call:La Z call
 J:∀t,Yx Z t (J t)
 K:Yx Z (ip + 1) K
 ip:ip < 100000
section
variable{Z:Vz}{call:Int→List D→Wd→VR'}{J:Nat→VK}{K:VK}{ip:Nat}(q:Zdl Z call J K ip)
include q
theorem Zel(i:Int)(h:∀st cl w,w.sid=2→∀k,Fit' (k + 1) st→Xo Z ip st cl w (ip + 1) (.int i::st) cl w):Yx Z ip (Xf (iC i K)):=Zn fun k st cl w e w' z hl hs=>Zp (h st cl w hs k hl) (q.K _ _ _ _ _ _ z hl.push hs)
theorem Dq{g:Int→Int→Option Int}(h:∀a b c st cl w k,Fit' (k + 1) (.int b:: .int a::st)→g a b=some c→Xo Z ip (.int b:: .int a::st) cl w (ip + 1) (.int c::st) cl w):Yx Z ip (Xf (Zqg g K)):=Zn fun k st cl w e w' z hl hs=>
 Ll (M:=fun st=>Fit' (k + 1) st→X2 Z (k + 1) ip st cl w e w') z (fun b a r z hl=>Za z fun c h1 z=>Zp (h a b c r cl w k hl h1) (q.K _ _ _ _ _ _ z hl.pop.dec hs)) hl
theorem Lu{g:Int→Int→Option Bool}{t:Nat}(h:∀i j b st cl w k,Fit' (k + 1) (.int j:: .int i::st)→g i j=some b→Xo Z ip (.int j:: .int i::st) cl w (bp b t (ip + 1)) st cl w):Yx Z ip (Xf (Zb2 J g t K)):=Zn fun k st cl w e w' z hl hs=>
 Ll (M:=fun st=>Fit' (k + 1) st→X2 Z (k + 1) ip st cl w e w') z (fun b a r z hl=>Za z fun c h1 z=>Zp (h a b c r cl w k hl h1) (Cd z (fun z=>q.J t _ _ _ _ _ _ z hl.pop.pop.dec hs) fun z=>q.K _ _ _ _ _ _ z hl.pop.pop.dec hs)) hl
end
section
variable{Z:Vz}{call:Int→List D→Wd→VR'}{J:Nat→VK}{K:VK}{ip:Nat}{x:D}(q:Zdl Z call J K ip)
include q
theorem Zrr{n:Nat}(hx:isX x n=some ())(hr:Ze Z ip 65033 x):Yx Z ip (Xf (Zsh Z.args n K)):=Cz (M:=fun x=>Ze Z ip 65033 x→Yx Z ip (Xf (Zsh Z.args n K))) hx (fun hn hr=>Zn fun k st cl w e w' z hl hs=>Za (x:=Z.args[n]?) z fun d hd z=>Zp (Zzc q.H q.ip hl hr hn hd) (q.K _ _ _ _ _ _ z hl.push hs)) hr
theorem Zrz{n:Nat}(hx:isX x n=some ())(hr:Ze Z ip 65036 x):Yx Z ip (Xf (Zsk n K)):=Cz (M:=fun x=>Ze Z ip 65036 x→Yx Z ip (Xf (Zsk n K))) hx (fun hn hr=>Zn fun k st cl w e w' z hl hs=>Za (x:=cl[n]?) z fun d hd z=>Zp (Zzi q.H q.ip hl hr hn hd) (q.K _ _ _ _ _ _ z hl.push hs)) hr
theorem Zs2{n:Nat}(hx:isX x n=some ())(hr:Ze Z ip 65038 x):Yx Z ip (Xf (Zsm n K)):=Cz (M:=fun x=>Ze Z ip 65038 x→Yx Z ip (Xf (Zsm n K))) hx (fun hn hr=>Zn fun k st cl w e w' z hl hs=>
 Wu (M:=fun st=>Fit' (k + 1) st→X2 Z (k + 1) ip st cl w e w') z (fun d r z hl=>Zl z fun h1 z=>Zp (Zzm q.H q.ip hl hr hn (Zz h1)) (q.K _ _ _ _ _ _ z hl.pop.dec hs)) hl) hr
theorem Zrw{f:Int}(hx:isF x f=some ())(hr:Ze Z ip 123 x):Yx Z ip (Xf (Zsj f K)):=Zg2 (M:=fun x=>Ze Z ip 123 x→Yx Z ip (Xf (Zsj f K))) hx (fun y r hf hr=>Zn fun k st cl w e w' z hl hs=>
 Dg (M:=fun st=>Fit' (k + 1) st→X2 Z (k + 1) ip st cl w e w') z (fun o r z hl=>Za z fun fs h1 z=>Za z fun v h2 z=>Zp (Zze q.H q.ip hl hr hf h1 h2) (q.K _ _ _ _ _ _ z (Fit'.dec hl) hs)) hl) hr
theorem Yhj{f:Int}(hx:isF x f=some ())(hr:Ze Z ip 125 x):Yx Z ip (Xf (iSt f K)):=Zg2 (M:=fun x=>Ze Z ip 125 x→Yx Z ip (Xf (iSt f K))) hx (fun y r hf hr=>Zn fun k st cl w e w' z hl hs=>
 Ll (M:=fun st=>Fit' (k + 1) st→X2 Z (k + 1) ip st cl w e w') z (fun b o r z hl=>Za z fun fs h1 z=>Za z fun fs' h2 z=>Za z fun l h3 z=>Zp (Zzl q.H q.ip hl hr h1 h2 h3) (q.K _ _ _ _ _ _ z hl.pop.pop.dec hs)) hl) hr
theorem Zrx(hr:Ze Z ip 163 x):Yx Z ip (Xf (Yac K)):=Zn fun k st cl w e w' z hl hs=>
 Ll (M:=fun st=>Fit' (k + 1) st→X2 Z (k + 1) ip st cl w e w') z (fun b a r z hl=>Zfx (M:=fun b=>Fit' (k + 1) (.int b:: .int a::r)→X2 Z (k + 1) ip (.int b:: .int a::r) cl w e w') z (fun b z hl=>Za z fun xs h1 z=>Zl z fun h2 z=>Za z fun v h3 z=>
  Zp (Zzh q.H q.ip hl hr h1 (Nat.le_of_lt (Zz (a2 h2).1)) h3 (Nat.le_of_ble_eq_true (a2 h2).2)) (q.K _ _ _ _ _ _ z (Fit'.dec hl.pop) hs)) hl) hl
theorem Zs1(hr:Ze Z ip 164 x):Yx Z ip (Xf (Yaf K)):=Zn fun k st cl w e w' z hl hs=>
 Ll (M:=fun st=>Fit' (k + 1) st→X2 Z (k + 1) ip st cl w e w') z (fun v b r z hl=>Zfx (M:=fun b=>Fit' (k + 1) (.int v:: .int b::r)→X2 Z (k + 1) ip (.int v:: .int b::r) cl w e w') z (fun b z hl=>Dg (M:=fun r=>Fit' (k + 1) (.int v:: .int b::r)→X2 Z (k + 1) ip (.int v:: .int b::r) cl w e w') z (fun a r z hl=>Za z fun xs h1 z=>Zl z fun h2 z=>Za z fun l h3 z=>
  Xy h2 fun h4 h5 h6=>Zp (Zzk q.H q.ip hl hr h1 (Nat.le_of_lt (Zz h4)) (Zz h5) (Nat.le_of_ble_eq_true h6) h3) (q.K _ _ _ _ _ _ z hl.pop.pop.pop.dec hs)) hl) hl) hl
theorem Zry(hr:Ze Z ip 142 x):Yx Z ip (Xf (Yad K)):=Zn fun k st cl w e w' z hl hs=>
 Dg (M:=fun st=>Fit' (k + 1) st→X2 Z (k + 1) ip st cl w e w') z (fun a r z hl=>Za z fun xs h1 z=>Zl z fun h2 z=>Zp (Zyg q.H q.ip hl hr h1 (Nat.le_of_ble_eq_true h2)) (q.K _ _ _ _ _ _ z (Fit'.dec hl) hs)) hl
theorem Zrs(hr:Ze Z ip 140 x):Yx Z ip (Xf (Ya9 K)):=Zn fun k st cl w e w' z hl hs=>
 Wu (M:=fun st=>Fit' (k + 1) st→X2 Z (k + 1) ip st cl w e w') z (fun d r z hl=>Zp (Zyc q.H q.ip hl hr) (q.K _ _ _ _ _ _ z (Fit'.dec hl) hs)) hl
theorem Zru{t:Nat}(hr:Ze Z ip 58 (.int t)):Yx Z ip (Xf (Yab Z.fx J t K)):=Zn fun k st cl w e w' z hl hs=>
 Wu (M:=fun st=>Fit' (k + 1) st→X2 Z (k + 1) ip st cl w e w') z (fun d r z hl=>Za z fun b h1 z=>Zp (Zye q.H q.ip hl hr h1) (Cd z (fun z=>q.J t _ _ _ _ _ _ z hl.pop.dec hs) fun z=>q.K _ _ _ _ _ _ z hl.pop.dec hs)) hl
theorem Zrt{t:Nat}(hr:Ze Z ip 57 (.int t)):Yx Z ip (Xf (Yaa Z.fx J t K)):=Zn fun k st cl w e w' z hl hs=>
 Wu (M:=fun st=>Fit' (k + 1) st→X2 Z (k + 1) ip st cl w e w') z (fun d r z hl=>Za z fun b h1 z=>Zp (Zyd q.H q.ip hl hr h1) (Cd z (fun z=>q.K _ _ _ _ _ _ z hl.pop.dec hs) fun z=>q.J t _ _ _ _ _ _ z hl.pop.dec hs)) hl
theorem I5(hr:Ze Z ip 141 x):Yx Z ip (Xf (Kh K)):=Zn fun k st cl w e w' z hl hs=>
 Dg (M:=fun st=>Fit' (k + 1) st→X2 Z (k + 1) ip st cl w e w') z (fun m r z hl=>Zl z fun h1 z=>Za z fun a h2 z=>Za z fun b h3 z=>Zp (Gh q.H q.ip hl hr (a2 h1).1 (a2 h1).2 h2 h3) (q.K _ _ _ _ _ _ z (Fit'.dec hl) hs)) hl
theorem Ds(hr:Ze Z ip 122 x):Yx Z ip (Xf Fr):=Zn fun k st cl w e w' z hl hs=>
 Dg (M:=fun st=>Fit' (k + 1) st→X2 Z (k + 1) ip st cl w e w') z (fun v r z hl=>Z0 (M:=fun e w'=>X2 Z (k + 1) ip (.int v::r) cl w e w') z (Fm (Ai q.H q.ip hl hr) hs)) hl
theorem Zs0(hr:Ze Z ip 42 x):Yx Z ip (Xf Yae):=Zn fun k st cl w e w' z hl hs=>Z0 (M:=fun e w'=>X2 Z (k + 1) ip st cl w e w') z (Fm (Za5 q.H q.ip hr) hs)
theorem Dr(hx:(t3 x fun x y=>ob (isI x 12) fun _=>isI y 1)=some ())(hr:Ze Z ip 40 x):Yx Z ip (Xf (Zsl K)):=Ct (M:=fun x=>Ze Z ip 40 x→Yx Z ip (Xf (Zsl K))) hx (fun hr=>Zn fun k st cl w e w' z hl hs=>
 Wu (M:=fun st=>Fit' (k + 1) st→X2 Z (k + 1) ip st cl w e w') z (fun d r z hl=>Zp (Ah q.H q.ip hl hr) (q.K _ _ _ _ _ _ z hl.pop.dec hs)) hl) hr
theorem Zek(hx:(t3 x fun x y=>ob (isI x 18) fun _=>isI y 206)=some ())(hr:Ze Z ip 40 x):Yx Z ip (Xf (Ci call K)):=Ct (M:=fun x=>Ze Z ip 40 x→Yx Z ip (Xf (Ci call K))) hx (fun hr=>Zn fun k st cl w e w' z hl hs=>
 Wu (M:=fun st=>Fit' (k + 1) st→X2 Z (k + 1) ip st cl w e w') z (fun d r z hl=>Yk z fun g w1 h1 z=>Oz (M:=fun g=>call 206 [d] w=some (g,w1)→X2 Z (k + 1) ip (d::r) cl w e w') z (fun z h1=>have c:=q.call _ _ _ _ _ h1 hs;Zp (Zo5 q.H q.ip hl hr (c.2 _ _)) (q.K _ _ _ _ _ _ z hl.pop.dec c.1)) h1) hl) hr
theorem Lv(hx:(t3 x fun _ y=>isI y 134)=some ())(hr:Ze Z ip 115 x):Yx Z ip (Xf (Ui call K)):=Zza (M:=fun x=>Ze Z ip 115 x→Yx Z ip (Xf (Ui call K))) hx (fun y m h hr=>R6 (M:=fun m=>Ze Z ip 115 (.tuple [y,m,.tuple []])→Yx Z ip (Xf (Ui call K))) h (fun hr=>Zn fun k st cl w e w' z hl hs=>
 Wu (M:=fun st=>Fit' (k + 1) st→X2 Z (k + 1) ip st cl w e w') z (fun d r z hl=>Zl z fun h1 z=>Za z fun m h2 z=>Za z fun e' h3 z=>Yk z fun g w1 h4 z=>Oz (M:=fun g=>call 134 [.int e',d] {w with obj:=(w.nobj,[(20,0),(21,0),(22,0),(23,0)])::w.obj,nobj:=m,bnd:=w.bnd + 1}=some (g,w1)→X2 Z (k + 1) ip (d::r) cl w e w') z
  (fun z h4=>have c:=q.call _ _ _ _ _ h4 hs;Zp (J1 q.H q.ip hl hr h1 h2 h3 (c.2 _ _)) (q.K _ _ _ _ _ _ z (Fit'.dec hl) c.1)) h4) hl) hr) hr
theorem I6{v:Int}(hx:(t3 x fun x y=>dZ x fun i=>iN i fun k=>dZ y fun m=>gd (Yo m&& !eqB m 134) (Gm Z.old k v))=some ())(hr:Ze Z ip 115 x):Yx Z ip (Xf (Vw v K)):=Zza (M:=fun x=>Ze Z ip 115 x→Yx Z ip (Xf (Vw v K))) hx (fun x y h hr=>
 Vf (M:=fun x=>Ze Z ip 115 (.tuple [x,y,.tuple []])→Yx Z ip (Xf (Vw v K))) h (fun i h hr=>Zfx (M:=fun i=>Ze Z ip 115 (.tuple [.int i,y,.tuple []])→Yx Z ip (Xf (Vw v K))) h (fun i h hr=>Vf (M:=fun y=>Ze Z ip 115 (.tuple [.int i,y,.tuple []])→Yx Z ip (Xf (Vw v K))) h (fun m h hr=>Zl h fun h1 hk=>Zn fun k st cl w e w' z hl hs=>
 have hm:eqC Z.fx m 134=some false:=by
  unfold eqC;rw[Y1 (a2 h1).1,nb (a2 h1).2];rfl
 Wu (M:=fun st=>Fit' (k + 1) st→X2 Z (k + 1) ip st cl w e w') z (fun d r z hl=>Zp (Gi q.H q.ip hl q.T hk hs hr hm) (q.K _ _ _ _ _ _ z (Fit'.dec hl) hs)) hl) hr) hr) hr) hr
theorem Zrv(hx:(t3 x fun x y=>ob (isI x 12) fun _=>isI y 3)=some ())(hr:Ze Z ip 111 x):Yx Z ip (Xf (Zsi Z.fx K)):=Ct (M:=fun x=>Ze Z ip 111 x→Yx Z ip (Xf (Zsi Z.fx K))) hx (fun hr=>Zn fun k st cl w e w' z hl hs=>
 Wu (M:=fun st=>Fit' (k + 1) st→X2 Z (k + 1) ip st cl w e w') z (fun x r z hl=>Wu (M:=fun r=>Fit' (k + 1) (x::r)→X2 Z (k + 1) ip (x::r) cl w e w') z (fun y r z hl=>Mf (M:=fun x=>Fit' (k + 1) (x::y::r)→X2 Z (k + 1) ip (x::y::r) cl w e w') z (fun b z hl=>Mf (M:=fun y=>Fit' (k + 1) (.tuple b::y::r)→X2 Z (k + 1) ip (.tuple b::y::r) cl w e w') z (fun a z hl=>Zl z fun h1 z=>Za z fun t h2 z=>
  Zp (Zyf q.H q.ip hl hr h1 h2) (q.K _ _ _ _ _ _ z (Fit'.dec hl.pop) hs)) hl) hl) hl) hl) hr
theorem Zen{row:V}{i:Ins}(hr:Z.rows[ip]? =some row)(hi:Gn Z.old row i=some ()):Yx Z ip (Xf (den Z.fx call Z.args J i K)):=by
 refine Zod (M:=fun row=>Z.rows[ip]? =some row→Yx Z ip (Xf (den Z.fx call Z.args J i K))) hi (fun x hx hr=> ?_) hr;have I:=fun{op:Int} {t:Nat} {P:Prop} (h:isI x t=some ()) (hr:Ze Z ip op x) (f:Ze Z ip op (.int t)→P)=>R6 (M:=fun x=>Ze Z ip op x→P) h f hr
 refine Ins.rec (motive:=fun i=>Ze Z ip (Zy1 i) x→xOk Z.old x i=some ()→Yx Z ip (Xf (den Z.fx call Z.args J i K)))
  ?_ ?_ ?_ ?_ ?_ ?_ ?_ ?_ ?_ ?_ ?_ ?_ ?_ ?_ ?_ ?_ ?_ ?_ ?_ ?_ ?_ ?_ ?_ ?_ ?_ ?_ ?_ ?_ ?_ ?_ ?_ i hr hx
 ·exact fun n hr hx=>Zrr q hx hr
 ·exact fun n hr hx=>Zrw q hx hr
 ·exact fun n hr hx=>Zrz q hx hr
 ·exact fun n hr hx=>R6 (M:=fun x=>Ze Z ip 32 x→Yx Z ip (Xf (iC n K))) hx (fun hr=>Zel q n fun st cl w _ k hl=>Zzg q.H q.ip hl hr) hr
 ·exact fun hr hx=>Dq q fun a b c st cl w k hl h=>Zzb q.H q.ip hl hr h
 ·exact fun n hr hx=>Yhj q hx hr
 ·exact fun hr hx=>Zrx q hr
 ·exact fun hr hx=>Zs1 q hr
 ·exact fun n hr hx=>Zs2 q hx hr
 ·exact fun hr hx=>Zs0 q hr
 ·exact fun t hr hx=>I hx hr fun hr=>Zn fun k st cl w e w' z hl hs=>Zp (Yiv q.H q.ip hr) (q.J t _ _ _ _ _ _ z hl.dec hs)
 ·exact fun hr hx=>Zn fun k st cl w e w' z hl hs=>Zp (Zo4 q.H q.ip hr) (q.K _ _ _ _ _ _ z hl.dec hs)
 ·exact fun hr hx=>Zry q hr
 ·exact fun hr hx=>Zel q 0 fun st cl w _ k hl=>Zyi q.H q.ip hl hr
 ·exact fun hr hx=>Zrs q hr
 ·exact fun t hr hx=>I hx hr fun hr=>Zru q hr
 ·exact fun t hr hx=>I hx hr fun hr=>Zrt q hr
 ·exact fun hr hx=>I5 q hr
 ·exact fun hr hx=>Ds q hr
 ·exact fun hr hx=>Dr q hx hr
 ·exact fun hr hx=>Zek q hx hr
 ·exact fun hr hx=>Lv q hx hr
 ·exact fun n hr hx=>I6 q hx hr
 ·exact fun hr hx=>Dq q fun a b c st cl w k hl h=>Zyj q.H q.ip hl hr h
 ·exact fun hr hx=>Dq q fun a b c st cl w k hl h=>Zyh q.H q.ip hl hr h
 ·exact fun hr hx=>Zrv q hx hr
 ·exact fun t hr hx=>I hx hr fun hr=>Lu q fun a b c st cl w k hl h=>Zyb q.H q.ip hl hr h
 ·exact fun t hr hx=>I hx hr fun hr=>Lu q fun a b c st cl w k hl h=>Zya q.H q.ip hl hr h
 ·exact fun t hr hx=>I hx hr fun hr=>Lu q fun a b c st cl w k hl h=>Zy9 q.H q.ip hl hr h
 ·exact fun t hr hx=>I hx hr fun hr=>Lu q fun a b c st cl w k hl h=>Zo3 q.H q.ip hl hr h
 ·exact fun t hr hx=>I hx hr fun hr=>Lu q fun a b c st cl w k hl h=>Zo2 q.H q.ip hl hr h
end
noncomputable def Ygn {α:Type} (o:Option O) (f:List V→Option α):Option α:=ob o fun o=>match o with
 |.list vs=>f vs
 |_=>none
theorem Zmv{α:Type}{r:α}{P:Prop}{o:Option O}{f:List V→Option α}(h:Ygn o f=some r)(k:∀vs,o=some (.list vs)→f vs=some r→P):P:=Za h fun o e h=>by
 cases o with
 |list vs=>exact k vs e h
 |_=>exact nn h
noncomputable def Go (old:Nat→Option O) (rows:List V) (code:List Ins):Option Unit:=List.rec (fun _=>some ()) (fun i _ ih rows=>c1 rows fun row r=>ob (Gn old row i) fun _=>ih r) code rows
theorem Nu{old:Nat→Option O}:∀{code:List Ins} {rows:List V} {j:Nat} {i:Ins},Go old rows code=some ()→code[j]? =some i→∃row,rows[j]? =some row∧Gn old row i=some ()
 | [],_,j,i,_,hj=>nn hj
 |a::l,rows,j,i,h,hj=>Wu (f:=fun row r=>ob (Gn old row a) fun _=>Go old r l) (M:=fun rows=>∃row,rows[j]? =some row∧Gn old row i=some ()) h fun row r h=>Za h fun _ h1 h=>by
  cases j with
  |zero=>exact⟨row,rfl,sj hj ▸ h1⟩
  |succ j=>exact Nu (rows:=r) h hj
noncomputable def meB (old:Nat→Option O) (mid:Nat) (M:Me):Option Unit:=Ygn (old 33) fun ms=>ob ms[mid]? fun v=>vI v fun k=>ob (Qc old k 3 12) fun bid=>Pv (old bid) fun c vs=>ob vs[0]? fun a=>vD a fun d=>dT d fun locs=>ob vs[2]? fun cv=>vI cv fun cid=>Zmw (old cid) fun rv=>
 gd (Nat.beq c 4&&(Nat.blt k 247&&(Nat.blt bid 247&&(Nat.blt cid 247&&(Nat.beq locs.length M.cells&&(Nat.ble M.cells 1000&&(Nat.ble mid 1000&&Nat.ble M.code.length 1000))))))) (Go old rv.reverse M.code)
structure G7(old:Nat→Option O)(mid:Nat)(M:Me):Prop where
 hm:mid≤1000
 cells:M.cells≤1000
 len:M.code.length≤1000
 find:∃ms k us bid vs locs cid rv,old 33=some (.list ms)∧ms[mid]? =some (.loc (.id k))∧k < 247∧old k=some (.inst 3 us)∧us[12]? =some (.loc (.id bid))∧bid < 247∧old bid=some (.inst 4 vs)∧vs[0]? =some (.dat (.tuple locs))∧vs[2]? =some (.loc (.id cid))∧cid < 247∧old cid=some (.rev rv)∧locs.length=M.cells∧Go old rv.reverse M.code=some ()
theorem Zh1{old:Nat→Option O}{mid:Nat}{M:Me}(h:meB old mid M=some ()):G7 old mid M:=
 Zmv h fun ms e1 h=>Za h fun v e2 h=>Zpo (M:=fun v=>ms[mid]? =some v→G7 old mid M) h (fun k h e2=>Za h fun bid e3 h=>U8 e3 fun us e3 e4=>Td h fun c vs e5 h=>Za h fun a e6 h=>Rh (M:=fun a=>vs[0]? =some a→G7 old mid M) h (fun d h e6=>Mf (M:=fun d=>vs[0]? =some (.dat d)→G7 old mid M) h (fun locs h e6=>
  Za h fun cv e7 h=>Zpo (M:=fun cv=>vs[2]? =some cv→G7 old mid M) h (fun cid h e7=>Ni h fun rv e8 h=>Zl h fun g h=>T2 g fun g1 g2 g3 g4 g=>T1 g fun g5 g6 g7 g8=>⟨Nat.le_of_ble_eq_true g7,Nat.le_of_ble_eq_true g6,Nat.le_of_ble_eq_true g8,ms,k,us,bid,vs,locs,cid,rv,e1,e2,Zz g2,e3,e4,Zz g3,Nat.eq_of_beq_eq_true g1 ▸ e5,e6,e7,Zz g4,e8,Nat.eq_of_beq_eq_true g5,h⟩) e7) e6) e6) e2
noncomputable def Id (old:Nat→Option O):Option Unit:=ob (Qc old 2 5 0) fun a=>ob (Qc old 3 0 0) fun b=>ob (Qc old 2 5 3) fun c=>gd (Nat.beq a 3&&(Nat.beq b 4&&(Nat.beq c 33&&mesL.all fun p=>(meB old p.1 p.2).isSome))) (some ())
structure Ma(old:Nat→Option O):Prop where
 kt:Zdm old
 ms:Qc old 2 5 3=some 33
 me:∀mid M,Bn mid=some M→∃n:Nat,mid=n∧G7 old n M
theorem R3{α:Type}{n:Nat}{M:α}:∀{l:List (Nat×α)},D6 l n=some M→(n,M)∈l
 | [],h=>nn h
 |p::l,h=>Vc (b:=Nat.beq p.1 n) (x:=some p.2) (y:=D6 l n) h (fun h1 h=>(Prod.ext (Nat.eq_of_beq_eq_true h1) (sj h):p=(n,M)) ▸ List.mem_cons_self) fun _ h=> .tail _ (R3 h)
theorem G2{old:Nat→Option O}(h:Id old=some ()):Ma old:=Za h fun a h1 h=>Za h fun b h2 h=>Za h fun c h3 h=>Zl h fun g _=>T1 g fun g1 g2 g3 g4=>⟨⟨Nat.eq_of_beq_eq_true g1 ▸ h1,Nat.eq_of_beq_eq_true g2 ▸ h2⟩,Nat.eq_of_beq_eq_true g3 ▸ h3,fun mid M hm=>
 Zfx (M:=fun mid=>∃n:Nat,mid=n∧G7 old n M) hm fun n hm=>⟨n,rfl,Ro (List.all_eq_true.mp g4 _ (R3 hm)) fun u hu=>Zh1 hu⟩⟩
section
variable{Z:Vz}{call:Int→List D→Wd→VR'}(H:Iy Z)(T:Zdm Z.old)(hcall:La Z call)
include H T hcall
theorem Ik{J:Nat→VK}(hJ:∀t,Yx Z t (J t)):∀(code:List Ins) (ip:Nat),(∀(j:Nat) (i:Ins),code[j]? =some i→∃row,Z.rows[ip + j]? =some row∧Gn Z.old row i=some ())→ip + code.length < 100000→Yx Z ip (vkc Z.fx call Z.args J code)
 | [],ip,_,_=>fun k st cl w e w' h=>nn h
 |i::r,ip,hr,hl=>(hr 0 i rfl).elim fun row z=>Zen ⟨H,T,hcall,hJ,Ik hJ r (ip + 1) (fun j i' hj=>(hr (j + 1) i' hj).imp fun row z=>⟨Nat.succ_add_eq_add_succ ip j ▸ z.1,z.2⟩) (Nat.succ_add_eq_add_succ ip r.length ▸ hl),Nat.lt_of_le_of_lt (Nat.le_add_right _ _) hl⟩ (row:=row) z.1 z.2
theorem Zpp{code:List Ins}(hr:∀(j:Nat) (i:Ins),code[j]? =some i→∃row,Z.rows[j]? =some row∧Gn Z.old row i=some ())(hl:code.length≤1000):∀m t,Yx Z t (vJ Z.fx call Z.args code m t)
 |0,t=>fun k st cl w e w' h=>nn h
 |m + 1,t=>by
  have ft:∀t,Hf code t=code.drop t:=fun t=>by
   induction t with
   |zero=>rfl
   |succ t ih=>
    show Zpj (Hf code t)=_;rw[ih,← List.tail_drop];cases code.drop t <;> rfl
  show Yx Z t (vkc Z.fx call Z.args (vJ Z.fx call Z.args code m) (Hf code t));rw[ft];rcases Nat.lt_or_ge code.length t with h |h
  ·rw[List.drop_eq_nil_of_le (Nat.le_of_lt h)]
   exact fun k st cl w e w' h=>nn h
  ·exact Ik H T hcall (Zpp hr hl m) _ t (fun j i hj=>hr _ _ (List.getElem?_drop.symm.trans hj)) (by rw[List.length_drop,Nat.add_sub_cancel' h];exact Nat.lt_of_le_of_lt hl (by decide))
end
theorem Zeb:∀(l:List D),ceL (.c 0) l=some (List.replicate l.length (.int 0))
 | []=>rfl
 |x::r=>show ob (ceL (.c 0) r) (fun l=>some (PyData.int 0::l))=_ from Z5 (Zeb r) rfl
theorem Zap{X:Xv}{lo:Zd}{σ σ1:St}{a:IE}{b:Nat}{y:Str}{xs:List D}{v:V}{σ2:St}(h:X.ev lo (.attr a b) σ (.dat (.tuple xs)) σ1)(hl:xs.length≤100000)(k:Ta X.md (List.replicate xs.length (.int 0)) σ1=(v,σ2)):X.ev lo (.comp (.c 0) y (.attr a b)) σ v σ2:=
 show Zq9 X.md (.c 0) (X.c (.attr a b)) lo σ=_ from W4 h (Z5 (a:=xs) rfl (Uz (szL hl) (Z5 (Zeb xs) (congrArg some k))))
theorem Zs4{o1 o2:O}{l:List O}:Ub (o1::o2::l) 2 0=l:=by cases l <;> rfl
section
variable{fx:List Fact}{old:Nat→Option O}{d n:Nat}{tmp:List O}{args:List D}
theorem Dy{mid:Nat}{M:Me}{w w':Wd}{e:D}(S:Ma old)(hM:G7 old mid M)(hs:w.sid=2)(ht:tmp.all Ft=true)(hn:247≤n)
 (h:∀bid rows,Iy ⟨fx,old,d,n,tmp,mid,args,bid,rows⟩→(∀(j:Nat) (i:Ins),M.code[j]? =some i→∃row,rows[j]? =some row∧Gn old row i=some ())→X2 ⟨fx,old,d,n,tmp,mid,args,bid,rows⟩ 400 0 [] (List.replicate M.cells (.int 0)) w e w'):
 w'.sid=2∧run (Tk fx old) Wn (d + 3) 66 (W66 mid args) ⟨247,n,tmp,some w⟩=some (.dat e,⟨247,n,tmp,some w'⟩):=by
 obtain⟨ms,k,us,bid,vs,locs,cid,rv,e1,e2,l1,e3,e4,l2,e5,e6,e7,l3,e8,e9,e10⟩:=hM.find;have G:=h bid rv.reverse ⟨l2,⟨vs,cid,rv,e5,e7,l3,e8,rfl⟩,hn,ht⟩ fun j i hj=>Nu e10 hj;refine⟨G.1,U8 S.ms fun ss s1 s2=>(G.2 ⟨none,none,none,none,none,none,none⟩ (Xc 400) (by decide)).elim fun lo' z=>z.elim fun o1 z=>z.elim fun o2 q=> ?_⟩;have o:=fun{k:Nat} (h:k < 247)=>Y0 (old:=old) (σ:=⟨247,n,tmp,some w⟩) h
 refine Gp (F:=f66) (by kernel_rfl) (Tp (fl:= .ret (.dat e)) rfl (Zi (Yg (V7 (c:=3) (p:=12) (Yh (v:= .loc (.id k)) (V7 (c:=5) (p:=3) (Rj (w:=w) rfl rfl) (by rw[hs];exact(o (by decide)).trans s1) rfl s2) (Zg rfl) (Za3 ((o (by decide)).trans e1) (Nat.le_trans hM.hm (by decide)) e2)) ((o l1).trans e3) rfl e4) rfl)
  (Zi (Yg (Zap (V7 (c:=4) (p:=0) (Zg rfl) ((o l2).trans e5) rfl e6) (e9 ▸ Nat.le_trans hM.cells (by decide)) rfl) rfl) (Zi (Yg rfl rfl) (Zi (lo1:=Vz.LO ⟨fx,old,d,n,tmp,mid,args,bid,rv.reverse⟩ 0 ⟨none,none,none,none,none,none,none⟩) (Yg rfl rfl) (Ex (e9.symm ▸ q)))))) ?_)
 show gd ((Ub (o1::o2::tmp) (n + 2 - n) 0).all Ft) (some (V.dat e,(⟨247,n,Ub (o1::o2::tmp) (n + 2 - n) 0,some w'⟩:St)))=_;rw[Nat.add_sub_cancel_left,Zs4];exact Uz ht rfl
theorem Zpq(S:Ma old):∀m mid a w g w1,vm fx Bn m mid a w=some (g,w1)→w.sid=2→w1.sid=2∧∀n tmp,247≤n→tmp.all Ft=true→run (Tk fx old) Wn (2 * m + 1) 66 (W66 mid a) ⟨247,n,tmp,some w⟩=some (.dat g,⟨247,n,tmp,some w1⟩)
 |0,mid,a,w,g,w1,h,_=>nn h
 |m + 1,mid,a,w,g,w1,h,hs=>Za (x:=Bn mid) (f:=fun M=>vkc fx (vm fx Bn m) a (vJ fx (vm fx Bn m) a M.code 60) M.code 400 [] (List.replicate M.cells (.int 0)) w) h fun M hm h=>(S.me mid M hm).elim fun i ok=>by
  have go:=fun(n:Nat) (tmp:List O) (hn:247≤n) (ht:tmp.all Ft=true)=>Dy (fx:=fx) (d:=2 * m) (args:=a) (w':=w1) (e:=g) S ok.2 hs ht hn fun bid rows H hr=>by
   have hc:La ⟨fx,old,2 * m,n,tmp,i,a,bid,rows⟩ (vm fx Bn m):=fun mid a w g w1 h hs=>have z:=Zpq S m mid a w g w1 h hs;⟨z.1,fun st cl=>z.2 (n + 2) (.dl st:: .dl cl.reverse::tmp) (Nat.le_add_right_of_le hn) ht⟩;exact Ik H S.kt hc (Zpp H S.kt hc hr ok.2.len 60) M.code 0 (fun j i hj=>(Nat.zero_add j).symm ▸ hr j i hj) (Nat.lt_of_le_of_lt (Nat.le_of_eq (Nat.zero_add _)) (Nat.lt_of_le_of_lt ok.2.len (by decide))) _ _ _ _ _ _ h (show 0 + 400≤50000 by decide) hs
  rw[ok.1];exact⟨(go 247 [] (Nat.le_refl _) rfl).1,fun n tmp hn ht=>(go n tmp hn ht).2⟩
theorem N6(S:Ma old){args:List V}{σ σ':St}{v:V}(h:Zai fx args σ=some (v,σ'))(hb:σ.base≤σ.next):run (Tk fx old) Wn 7 66 args σ=some (v,σ'):=
 Wu (M:=fun args=>run (Tk fx old) Wn 7 66 args σ=some (v,σ')) h fun x r h=>Wu (M:=fun r=>run (Tk fx old) Wn 7 66 (x::r) σ=some (v,σ')) h fun y r h=>Wu (M:=fun r=>run (Tk fx old) Wn 7 66 (x::y::r) σ=some (v,σ')) h fun z r h=>Fc (M:=fun r=>run (Tk fx old) Wn 7 66 (x::y::z::r) σ=some (v,σ')) h fun h=>
 Ew (M:=fun x=>run (Tk fx old) Wn 7 66 [x,y,z] σ=some (v,σ')) h fun l h=>Zgn (M:=fun l=>run (Tk fx old) Wn 7 66 [.loc l,y,z] σ=some (v,σ')) h fun h=>Q6 (M:=fun y=>run (Tk fx old) Wn 7 66 [.loc .w,y,z] σ=some (v,σ')) h fun mid h=>Rh (M:=fun z=>run (Tk fx old) Wn 7 66 [.loc .w,.dat (.int mid),z] σ=some (v,σ')) h fun dd h=>Zq4 (M:=fun dd=>run (Tk fx old) Wn 7 66 [.loc .w,.dat (.int mid),.dat dd] σ=some (v,σ')) h fun as h=>
 Za h fun w hw h=>Zl h fun g h=>Xy g fun g1 g2 g3=>Yk h fun d w' hv h=>by
  obtain⟨base,next,tmp,ww⟩:=σ;have e1:base=247:=Nat.eq_of_beq_eq_true g1;have e2:ww=some w:=hw;subst e1 e2;exact((Zpq S 3 mid as w d w' hv (Nat.eq_of_beq_eq_true g2)).2 next tmp hb g3).trans h
theorem rc3{a d:Nat}(h:a + 3 * (d + 1 + 7) + 8 < 1000):a + 3 * 7 + 8 < 1000:=Nat.lt_of_le_of_lt (Nat.add_le_add_right (Nat.add_le_add_left (Nat.mul_le_mul_left 3 (Nat.le_add_left 7 _)) _) _) h
theorem rc4{a d:Nat}(h:a + 20 * (d + 1 + 7) + 290 < 9900):a + 20 * 7 + 290 < 9900:=Nat.lt_of_le_of_lt (Nat.add_le_add_right (Nat.add_le_add_left (Nat.mul_le_mul_left 20 (Nat.le_add_left 7 _)) _) _) h
theorem Xn{C:Cx}{mg mb:Str→Option Value}(X:Vr C mg mb)(hT:C.T=Tk fx old)(hf:∀f F,Wn f=some F→E2 C f F)(S:Ma old):∀d,SoundCF C (d + 7) (U2 C.T Wn d)
 |0=>fun f vs σ v σ' e=>nn e
 |d + 1=>fun f vs σ v σ' e A s ρ xs B rm r vr q=>Vc (b:=Nat.beq f 66) e (fun h e=>Vp X hf 7 f vs σ v σ' (by rw[Nat.eq_of_beq_eq_true h];rw[hT] at e ⊢;exact N6 S e r.old) xs B ⟨rm.1,rc3 rm.2.1,rc4 rm.2.2⟩ r vr q)
  fun _ e=>Za e fun F hF e=>Uq X (hf f F hF) (Xn X hT hf S d) e xs B rm r vr q
end
noncomputable def Rk (v:V):Bool:=V.rec Q4 (fun l=>(lI l fun n=>some n).isSome) v
noncomputable def Be (o:O):Bool:=O.rec (fun r=>Y8 r) (fun r=>r.all Rk) (fun r=>r.all Rk) (fun es=>es.all fun p=>Rk p.2) (fun _ vs=>vs.all Rk) true o
noncomputable def lo0 (s:V):Zd:=[some s,none,none,none,none,none,none,none,none]
noncomputable def σk0:St:=⟨2,2,[],none⟩
noncomputable def Ygr (s:V):Wz:=kSs (Tk [] Qh) (run (Tk [] Qh) Wn 60) 2 F4 (lo0 s) σk0
noncomputable def Xl (old:Nat→Option O) (n:Nat):Bool:=Nat.rec true (fun k ih=>Option.rec true (fun o=>Be o) (old k)&&ih) n
noncomputable def rn {α:Type} (x:Wz) (f:Zd→St→Option α):Option α:=Option.rec none (fun r=>Prod.rec (fun fl q=>Prod.rec (fun lo σ=>Fl.rec (f lo σ) (fun _=>none) fl) q) r) x
theorem Zym{α:Type}{r:α}{x:Wz}{f:Zd→St→Option α}(h:rn x f=some r){P:Prop}(k:∀lo σ,x=some (.next,lo,σ)→f lo σ=some r→P):P:=by
 cases x with
 |none=>exact nn h
 |some q=>
  obtain⟨fl,lo,σ⟩:=q;cases fl with
  |next=>exact k lo σ rfl h
  |ret v=>exact nn h
noncomputable def Yio (r:Wz):Option V:=rn r fun lo σ=>gd (Nat.beq σ.base 2&&(Nat.beq σ.next 247&&(σ.w.isNone&&Xl (Zj Qh σ) 247))) (ob lo[1]? fun o=>ob o fun v=>vI v fun n=>gd (Nat.beq n 2) (ob (Id (Zj Qh σ)) fun _=>ob lo[0]? fun x=>x))
theorem Zo0(s:V):Yio (Ygr s)=some s:=by kernel_rfl
end Mine
namespace Mine
open PySem PySem.W PySem.Calls PyProof.Rows
set_option genInjectivity false
set_option genSizeOf false
noncomputable def Zs9 (e:DictEntry) (k v:Int):Bool:=kVi e.key fun a=>kVi e.val fun b=>decide (a=k)&&(decide (b=v)&&(decide (e.hash=hashInt k)&&(Yo k&&Yo v)))
noncomputable def Dz (l:List (D×V)):List DictEntry→Option (List Int):=List.rec (fun es=>c0 es (some [])) (fun p _ ih es=>c1 es fun e r=>dZ p.1 fun k=>vZ p.2 fun v=>gd (Zs9 e k v) (ob (ih r) fun ks=>some (k::ks))) l
theorem Zf2{e:DictEntry}{k v:Int}(h:Zs9 e k v=true){P:Prop}(f:∀ta tb,e.key= .int k ta→e.val= .int v tb→e.hash=hashInt k→Yo k=true→Yo v=true→P):P:=
 C7 (M:=fun x=>e.key=x→P) h (fun a ta h e1=>C7 (M:=fun x=>e.val=x→P) h (fun b tb h e2=>T2 h fun a1 a2 a3 a4 a5=>f ta tb (of_decide_eq_true a1 ▸ e1) (of_decide_eq_true a2 ▸ e2) (of_decide_eq_true a3) a4 a5) rfl) rfl
theorem Ou{prog:Program}{w:World}{C:Cx}{σ:St}{ρ:Rho}{h:Heap}(v0:C.val 0=0):∀{l:List (D×V)} {es:List DictEntry} {ks:List Int},Dz l es=some ks→∃kvs,Pairs (intKind prog w) es kvs∧(∀e∈es,∃k,(intKind prog w).is k e.key=true∧e.hash=(intKind prog w).hash k)∧IntEnts C σ ρ h l kvs∧kvs.map (·.1)=ks
 | [],es,ks,e=>Fc (M:=fun es=>∃kvs,Pairs (intKind prog w) es kvs∧(∀e∈es,∃k,(intKind prog w).is k e.key=true∧e.hash=(intKind prog w).hash k)∧IntEnts C σ ρ h [] kvs∧kvs.map (·.1)=ks) e fun e=>⟨[],.nil,fun _ h=>absurd h List.not_mem_nil,rfl,sj e⟩
 |(d,v)::l,es,ks,e=>Wu (f:=fun e r=>dZ d fun k=>vZ v fun v=>gd (Zs9 e k v) (ob (Dz l r) fun ks=>some (k::ks))) (M:=fun es=>∃kvs,Pairs (intKind prog w) es kvs∧(∀e∈es,∃k,(intKind prog w).is k e.key=true∧e.hash=(intKind prog w).hash k)∧IntEnts C σ ρ h ((d,v)::l) kvs∧kvs.map (·.1)=ks) e fun x r e=>
  Vf (M:=fun d=>∃kvs,Pairs (intKind prog w) (x::r) kvs∧(∀e∈x::r,∃k,(intKind prog w).is k e.key=true∧e.hash=(intKind prog w).hash k)∧IntEnts C σ ρ h ((d,v)::l) kvs∧kvs.map (·.1)=ks) e fun k e=>
  Q6 (M:=fun v=>∃kvs,Pairs (intKind prog w) (x::r) kvs∧(∀e∈x::r,∃k,(intKind prog w).is k e.key=true∧e.hash=(intKind prog w).hash k)∧IntEnts C σ ρ h ((.int k,v)::l) kvs∧kvs.map (·.1)=ks) e fun v e=>Zl e fun h1 e=>Za e fun ks' h2 e=>Zf2 h1 fun ta tb e1 e2 e3 e4 e5=>(Ou v0 h2).elim fun kvs q=>by
   have ki:(intKind prog w).is k x.key=true:=by rw[e1];exact beq_self_eq_true k
   exact⟨(k,x.val)::kvs,.cons ki rfl q.1,fun y hy=>(List.mem_cons.mp hy).elim (fun z=>z ▸ ⟨k,ki,e3⟩) (q.2.1 y),⟨x.val,kvs,rfl,e4,⟨tb,e2.trans (by rw[show C.ν v=v from Zo v0 e5])⟩,q.2.2.1⟩,(congrArg (k:: ·) q.2.2.2).trans (sj e)⟩
noncomputable def Dt (K:Frag) (a:Addr) (l:List (D×V)):Bool:=kSo (K.lookup a) fun o=>kTy o.cls (fun t=>t == "dict")&&(o.dict.isNone&&(o.slots.isEmpty&&kDc o.data fun es=>(ob (Dz l es.toList) fun ks=>gd (Vh ks) (some ())).isSome))
theorem Ot{C:Cx}{σ:St}{ρ:Rho}{h:Heap}(X:C.K.In h)(v0:C.val 0=0){a:Addr}{k:Int}{v:V}{l:List (D×V)}(e:Dt C.K a ((.int k,v)::l)=true):DictRep C σ ρ h a ((.int k,v)::l):=
 M9 e fun o ho e=>T1 e fun e1 e2 e3 e=>Zgc e fun es n hd e=>Ro e fun u e=>Za e fun ks e4 e=>Zl e fun e5 _=>(Ou (prog:=C.prog) (w:=C.wld) (σ:=σ) (ρ:=ρ) (h:=h) v0 e4).elim fun kvs q=>
 ⟨kvs,⟨o,es,n,X _ _ ho,⟨Zss (M:=fun c=>c= .type "dict") e1 fun t z=>congrArg Value.type (beq_iff_eq.mp z),Option.isNone_iff_eq_none.mp e2,Array.isEmpty_iff.mp e3⟩,hd,fun x hx=>q.2.1 x (Array.mem_toList_iff.mpr hx),q.1,q.2.2.2 ▸ W6 e5⟩,q.2.2.1⟩
theorem d47(P:Params):Dt (KF P) 47 P9=true:=by kernel_rfl
theorem Yhi(P:Params):Dt (KF P) 377 Jv=true:=by kernel_rfl
noncomputable def ρ0:Rho:=fun l=>match l with
 |.id n=>bp (Nat.beq n 0) 47 377
 |_=>0
noncomputable abbrev C0 (w:World) (val:Int→Int):Cx:=CK w [] Qh val 0
theorem Ju{n:Nat}{o:O}(e:Zj Qh σk0 n=some o){M:Nat→O→Prop}(f:M 0 (.dict P9))(g:M 1 (.dict Jv)):M n o:=by
 by_cases h:n < 2
 ·exact Vc (b:=Nat.beq n 0) ((Y0 (σ:=σk0) h).symm.trans e) (fun h e=>Nat.eq_of_beq_eq_true h ▸ sj e ▸ f) fun _ e=>Zl e fun h e=>Nat.eq_of_beq_eq_true h ▸ sj e ▸ g
 ·exact nn ((Xs (σ:=σk0) (old:=Qh) h h).symm.trans e)
theorem Mm{w:World}{val:Int→Int}{l:Lc}(d:Z2 (C0 w val) σk0 l){M:Lc→Prop}(f:M (.id 0))(g:M (.id 1)):M l:=by
 cases l with
 |id n=>exact d.elim fun o d=>Ju (M:=fun n _=>M (.id n)) d.1 f g
 |idd n=>exact d.elim fun c d=>d.elim fun vs d=>Ju (M:=fun n o=>o= .inst c vs→M (.idd n)) d nofun nofun rfl
 |_=>exact d.elim fun w d=>nn d.1
theorem Ld{w:World}{val:Int→Int}(v0:val 0=0){h:Heap}(X:(KF w.params).In h):R (C0 w val) σk0 ρ0 h:=
 ⟨X,fun n o e=>Ju (M:=fun n o=>RepO (C0 w val) σk0 ρ0 h n o) e (Ot (C:=C0 w val) X v0 (d47 _)) (Ot (C:=C0 w val) X v0 (Yhi _)),fun w e=>nn e,
   fun l l' d d'=>Mm (M:=fun l=>ρ0 l=ρ0 l'→l=l') d (Mm (M:=fun l'=>ρ0 (.id 0)=ρ0 l'→.id 0=l') d' (fun _=>rfl) fun e=>absurd (show 47=377 from e) (by decide)) (Mm (M:=fun l'=>ρ0 (.id 1)=ρ0 l'→.id 1=l') d' (fun e=>absurd (show 377=47 from e) (by decide)) fun _=>rfl),
   fun l d=>Mm (M:=fun l=>X6 σk0 l→List.lookup (ρ0 l) (KF w.params)=none) d (fun y=>absurd (show 2≤0 from y) (by decide)) fun y=>absurd (show 2≤1 from y) (by decide),Nat.le_refl _,
   fun n a e=>Vc (b:=Nat.beq n 0) e (fun h e=>Nat.eq_of_beq_eq_true h ▸ ⟨sj e,show 0 < 2 by decide⟩) fun _ e=>Zl e fun h e=>Nat.eq_of_beq_eq_true h ▸ ⟨sj e,show 1 < 2 by decide⟩,Yj7 _,
   fun l d=>Mm (M:=fun l=>ρ0 l≠sysModules) d (show 47≠sysModules by decide) (show 377≠sysModules by decide)⟩
end Mine
namespace Mine
open PySem PySem.W
set_option genInjectivity false
set_option genSizeOf false
noncomputable def uk (k:Nat):Int:=Int.ofNat (k * 1208925819614629174706176)
noncomputable def xsC (c:Nat):List Int:=(List.range c).map (fun i=>uk (30 + i) + 1)
noncomputable def Ek (c room:Nat):List Int:=xsC c++List.replicate (room - c) 0
noncomputable def prC (sw:Nat):D:=bp (Nat.beq sw 0) (.tuple [.int (uk 1),.int (uk 2)]) (.tuple [.int (uk 2),.int (uk 1)])
noncomputable def wC (pr:D) (c room:Nat):Wd:=⟨2,pr,uk 5,
 [(uk 1,[(8,uk 3),(9,(c:Int)),(10,uk 7)]),(uk 2,[(8,uk 4),(9,(c:Int)),(10,uk 8)])],uk 6,
 [(uk 3,Ek c room),(uk 4,Ek c room)],
 [(uk 1,uk 7),(uk 2,uk 8)],0⟩
noncomputable def sC (pr:D) (c room:Nat):St:=⟨247,247,[],some (wC pr c room)⟩
noncomputable def fxQ:List Fact:=[.ar 0 (uk 20) 20 (uk 21),.ar 0 (uk 20) 10 (uk 22),.ar 0 (uk 21) 11 (uk 24),.ar 1 (uk 24) 9 (uk 25)]
noncomputable def fxO (op sw:Nat):List Fact:= .ar 1 (uk 20) 10 op:: .ar 1 (uk 22) 2 sw::fxQ
noncomputable def pTwo (c:Nat):List (List Fact):=(List.range (c - 1)).flatMap fun i=>(List.range (c - 1 - i)).map fun k=>[.ar 1 (uk 21) (c - 1:Nat) (i:Nat),.ar 0 (uk 21) 7 (uk 23),.ar 1 (uk 23) (c - 1 - i:Nat) (k:Nat)]
noncomputable def pMd (z:Int) (m:Nat):List (List Fact):=(List.range m).map fun(i:Nat)=>[Fact.ar 1 z (m:Int) (i:Int)]
noncomputable def pM0 (z:Int) (m:Nat):List (List Fact):=bp (Nat.beq m 0) [[]] (pMd z m)
noncomputable def pAg (c:Nat):List (List Fact):=[.ar 1 (uk 21) 2 1]::(List.range 2).map fun b=> .ar 1 (uk 21) 2 0:: .ar 0 (uk 21) 2 (uk 29)::(List.range c).map fun(k:Nat)=> .ar 1 (uk 29 + k) 2 ((b + k) % 2:Nat)
noncomputable def pS1 (m:Nat):List (List Fact):=(pMd (uk 28) m).map (Fact.ar 0 (uk 21) 5 (uk 28):: ·)
noncomputable def pSr (c:Nat):List (List Fact):=(List.range 5).flatMap fun s=>(bp (Nat.beq c 0) [[]] (bp (Nat.beq s 1) (pS1 (c + 1)) (bp (Nat.beq s 2 || Nat.beq s 3) (pS1 c) [[]]))).map fun l=>Fact.ar 1 (uk 21) 5 (s:Nat)::Fact.ar 0 (uk 21) 25 (uk 26)::Fact.ar 1 (uk 26) 9 (uk 27)::l
noncomputable def pL (c:Nat):List (List (List Fact)):=[[[]],pMd (uk 21) (c + 1),pM0 (uk 21) c,bp (Nat.blt c 4) (pTwo (c + 2)) (pTwo c),bp (Nat.blt 1 c) (pTwo c) [[]],bp (Nat.blt c 6) (pAg c) [[]],pSr c,[[]],pMd (uk 21) 3,pM0 (uk 21) c]
noncomputable def B9 (c:Nat) (op:Nat):List (List Fact):=((pL c)[op]?).getD [[]]
noncomputable def Qt:IS:= .ife (.bop .Or [(.not (.call 30 89 [(.nm 2),(.nm 8)])),(.not (.call 21 73 [(.nm 2)]))]) [(.ret (.c (.bool false)))] []
noncomputable def loC (q:Int):Zd:=[none,none,some (.loc .w),none,none,none,none,none,some (.dat (.int q))]
noncomputable def Zb0 {α:Type} (e:α→α→Bool) (a:List α):List α→Bool:=List.rec (fun b=>X4 b true) (fun x _ ih b=>Wc b fun y s=>e x y&&ih s) a
noncomputable def eqL:List Int→List Int→Bool:=Zb0 eqB
noncomputable def Ab (y:Int):Bool:=ltB 0 (y - hiC y * 1208925819614629174706176)&&ltB 19 (hiC y)
noncomputable def crB (c room:Nat):Bool:=bp (Nat.beq room 8) (Nat.ble c 8) (bp (Nat.beq room 4) (Nat.ble c 4) (bp (Nat.beq room 0) (Nat.beq c 0) (Nat.beq room 16&&Nat.beq c 9)))
section
variable{α β:Type}{r:β}{M:List α→Prop}{l:List α}
noncomputable def l2 (l:List α) (f:α→α→Option β):Option β:=c1 l fun a t=>c1 t fun b t=>c0 t (f a b)
noncomputable def l3 (l:List α) (f:α→α→α→Option β):Option β:=c1 l fun a t=>l2 t fun b c=>f a b c
@[elab_as_elim] theorem Zqk {f:α→α→Option β} (h:l2 l f=some r) (k:∀a b,f a b=some r→M [a,b]):M l:=Wu h fun a t h=>Wu (M:=fun t=>M (a::t)) h fun b t h=>Fc (M:=fun t=>M (a::b::t)) h fun h=>k a b h
@[elab_as_elim] theorem Yak {f:α→α→α→Option β} (h:l3 l f=some r) (k:∀a b c,f a b c=some r→M [a,b,c]):M l:=Wu h fun a t h=>Zqk (M:=fun t=>M (a::t)) h fun b c h=>k a b c h
end
noncomputable def L6 (W:Wd):Option Unit:=dT W.pair fun l=>l2 l fun p1 p2=>dZ p1 fun p1=>dZ p2 fun p2=>ob (Zc W.obj p1) fun f=>ob (Zc W.obj p2) fun g=>l3 f fun x1 x2 x3=>l3 g fun y1 y2 y3=>iN x2.2 fun c=>ob (Zc W.arr x1.2) fun a=>ob (Zc W.arr y1.2) fun b=>ob (Zc W.vers p1) fun u1=>ob (Zc W.vers p2) fun u2=>
 gd (Nat.beq W.sid 2&&(Nat.ble W.bnd 1000&&(crB c a.length&&(eqB x1.1 8&&(eqB x2.1 9&&(eqB x3.1 10&&(eqB y1.1 8&&(eqB y2.1 9&&(eqB y3.1 10&&(eqB y2.2 (.ofNat c)&&(eqB u1 x3.2&&(eqB u2 y3.2&&(!eqB p1 p2&&(!eqB x1.2 y1.2&&(eqL b a&&(eqL (a.drop c) (List.replicate (a.length - c) 0)&&(a.take c).all Ab)))))))))))))))) (some ())
noncomputable def Ml (r:Wz):Option Unit:=rn r fun lo σ=>ob (isW lo 2) fun _=>gd (Nat.beq σ.base 247&&(Nat.beq σ.next 247&&σ.tmp.isEmpty)) (ob σ.w L6)
noncomputable def M0 (Φ:List Fact) (old:Nat→Option O) (sw c room:Nat):Wz:=kSs (Tk Φ old) (U2 (Tk Φ old) Wn 12) 2 [Qt] (loC (uk 20)) (sC (prC sw) c room)
noncomputable def Zaf (f:Nat→Wz):Bool:=(Ml (f 0)).isSome&&(Ml (f 1)).isSome
noncomputable def Q9 (old:Nat→Option O) (c room op:Nat):Bool:=(B9 c op).all fun Ψ=>Zaf fun sw=>M0 (Ψ++fxO op sw) old sw c room
noncomputable def fx8 (b:Bool) (sw:Nat):List Fact:= .ar 1 (uk 20) 10 (uk 19):: .eq (uk 19) 0 b:: .ar 1 (uk 22) 2 sw::fxQ
noncomputable def Yha (old:Nat→Option O):Bool:=(Zaf fun sw=>M0 (fx8 false sw) old sw 8 8)&&(Zaf fun sw=>M0 (fx8 true sw) old sw 8 8)
noncomputable def fx9 (i:Nat) (sw:Nat):List Fact:= .ar 1 (uk 20) 10 (uk 19):: .ar 1 (uk 22) 2 sw:: .ar 1 (uk 21) 3 i::fxQ
noncomputable def Yhb (old:Nat→Option O):Bool:=Md (fun i=>Zaf fun sw=>M0 (fx9 i sw) old sw 9 16) 0 3
noncomputable def nzF (c:Nat):List Fact:=(List.range c).map fun k=> .eq (uk (30 + k) + 1) 0 false
noncomputable def eqF (bs:List Bool):Nat→List Fact:=List.rec (fun _=>[]) (fun b _ ih k=> .eq (uk k + 1) (uk 25 + 1) b::ih (k + 1)) bs
noncomputable def fxF (c i sw:Nat) (bs:List Bool):List Fact:= .ar 1 (uk 20) 10 9:: .ar 1 (uk 22) 2 sw:: .ar 1 (uk 21) (c:Nat) (i:Nat)::(fxQ++(nzF c++eqF bs 30))
noncomputable def Lh (n:Nat):List (List Bool):=Nat.rec [[]] (fun _ ih=>ih.flatMap fun l=>[false::l,true::l]) n
noncomputable def wF (pr:D) (c room i:Nat):Wd:=⟨2,pr,uk 5,
 [(uk 1,[(8,uk 3),(9,(c:Int)),(10,uk 7 + 1)]),(uk 2,[(8,uk 4),(9,(c:Int)),(10,uk 8 + 1)])],uk 6,
 [(uk 3,(Ek c room).set i (uk 25 + 1)),(uk 4,(Ek c room).set i (uk 25 + 1))],
 [(uk 1,uk 7 + 1),(uk 2,uk 8 + 1)],2⟩
noncomputable def sF (pr:D) (c room i:Nat):St:=⟨247,247,[],some (wF pr c room i)⟩
noncomputable def Zds (c:Nat):List V:=[.loc .w,.dat (.int (uk 1)),.dat (.int (uk 2)),.dat (.int (c:Int)),.dat (.int (uk 21))]
noncomputable def Yam (c:Nat):Zd:=(Zds c).map some++[none,none,none]
noncomputable def Yan (c:Nat):Zd:=(Zds c).map some++[some (.dat (.int (uk 25 + 1))),some (.dat (.int 0)),none]
noncomputable def Sd (c:Nat) (hv:Int):Zd:=(Zds c).map some++[some (.dat (.int (uk 25 + 1))),some (.dat (.int hv)),some (.dat (.int ((c - 1:Nat):Int)))]
noncomputable def eqP:List (Int×Int)→List (Int×Int)→Bool:=Zb0 fun p q=>eqB p.1 q.1&&eqB p.2 q.2
noncomputable def Ya5:List (Int×List (Int×Int))→List (Int×List (Int×Int))→Bool:=Zb0 fun p q=>eqB p.1 q.1&&eqP p.2 q.2
noncomputable def Ya4:List (Int×List Int)→List (Int×List Int)→Bool:=Zb0 fun p q=>eqB p.1 q.1&&eqL p.2 q.2
noncomputable def prI {α:Type} (d:D) (f:Int→Int→Option α):Option α:=dT d fun l=>l2 l fun x y=>dZ x fun a=>dZ y fun b=>f a b
noncomputable def Ya6 (x y:D):Option Unit:=prI x fun a b=>prI y fun c d=>gd (eqB a c&&eqB b d) (some ())
noncomputable def eqW (W V:Wd):Bool:=Nat.beq W.sid V.sid&&((Ya6 W.pair V.pair).isSome&&(eqB W.nobj V.nobj&&(Ya5 W.obj V.obj&&(eqB W.narr V.narr&&(Ya4 W.arr V.arr&&(eqP W.vers V.vers&&Nat.beq W.bnd V.bnd))))))
noncomputable def isC (V:Wd) (σ:St):Bool:=Nat.beq σ.base 247&&(Nat.beq σ.next 247&&(σ.tmp.isEmpty&&kSo σ.w fun W=>eqW W V))
noncomputable def g88 (sw c room i:Nat) (args:List V) (σ:St):Res:=c1 args fun x r=>c1 r fun a r=>c1 r fun b r=>l2 r fun n z=>vL x fun l=>lW l (vZ a fun a=>vZ b fun b=>vZ n fun n=>vZ z fun z=>gd (eqB a (uk 1)&&(eqB b (uk 2)&&(eqB n (c:Int)&&(eqB z (uk 21)&&isC (wC (prC sw) c room) σ)))) (some (.dat (.bool true),sF (prC sw) c room i)))
noncomputable def C5 (g:List V→St→Res) (T:Tb) (fns:Nat→Option Fn) (d:Nat):Nat→List V→St→Res:=
 Nat.rec (fun _ _ _=>none) (fun _ ih f args σ=>bp (Nat.beq f 66) (Zai T.fx args σ) (bp (Nat.beq f 88) (g args σ) (ob (fns f) fun F=>Rd T ih F args σ))) d
noncomputable def Zz7 (bs:List Bool) (old:Nat→Option O) (sw c room i:Nat):Wz:=kSs (Tk (fxF c i sw bs) old) (C5 (g88 sw c room i) (Tk (fxF c i sw bs) old) Wn 12) 2 [Qt] (loC (uk 20)) (sC (prC sw) c room)
noncomputable def Mc (bs:List Bool) (old:Nat→Option O) (c room:Nat):Bool:=Md (fun i=>Zaf fun sw=>Zz7 bs old sw c room i) 0 c
noncomputable def kF (c i sw:Nat) (bs:List Bool) (old:Nat→Option O) (l:List IS) (lo:Zd) (σ:St):Wz:=kSs (Tk (fxF c i sw bs) old) (U2 (Tk (fxF c i sw bs) old) Wn 4) 0 l lo σ
noncomputable def hvB (bs:List Bool):Int:=bp (bs.any id) 1 0
noncomputable def Ee (c:Nat):List (Nat×Nat):=(List.range c).flatMap fun i=>(List.range i).map fun m=>(i,m)
structure Z8(c room:Nat):Prop where
 p1:∀(old:Nat→Option O) (pr:D) (i sw:Nat) (bs:List Bool),kF c i sw bs old (f88.body.take 3) (Yam c) (sC pr c room)=some (.next,Yan c,sC pr c room)
 p4:∀(old:Nat→Option O) (pr:D) (i sw:Nat),(Lh c).map (fun bs=>kF c i sw bs old ((f88.body.drop 3).take 1) (Yan c) (sC pr c room))=(Lh c).foldr (fun bs r=>some (.next,Sd c (hvB bs),sC pr c room)::r) []
 p5a:∀(old:Nat→Option O) (pr:D) (i sw:Nat),kF c i sw (List.replicate c false) old ((f88.body.drop 4).take 1) (Sd c 0) (sC pr c room)=some (.next,Sd c 0,sC pr c room)
 p5b:∀(old:Nat→Option O) (pr:D) (i sw:Nat) (ts:List Bool),(List.range c).map (fun m=>kF c i sw (List.replicate m false++true::ts) old ((f88.body.drop 4).take 1) (Sd c 1) (sC pr c room))=(List.range c).foldr (fun _ r=>some (.next,Sd c 1,sC pr c room)::r) []
 p6a:∀(old:Nat→Option O) (pr:D) (sw:Nat) (hv:Int) (ts:List Bool),(List.range c).map (fun i=>kF c i sw (List.replicate i false++ts) old (f88.body.drop 5) (Sd c hv) (sC pr c room))=(List.range c).foldr (fun i r=>some (.ret (.dat (.bool true)),Sd c hv,sF pr c room i)::r) []
 p6b:∀(old:Nat→Option O) (pr:D) (sw:Nat) (hv:Int) (ts:List Bool),(Ee c).map (fun p=>kF c p.1 sw (List.replicate p.2 false++true::ts) old (f88.body.drop 5) (Sd c hv) (sC pr c room))=(Ee c).foldr (fun p r=>some (.ret (.dat (.bool true)),Sd c hv,sF pr c room p.1)::r) []
noncomputable def Qj (old:Nat→Option O) (c room:Nat):Bool:=Md (Q9 old c room) 0 9
set_option genSizeOf true
theorem Oy{α β:Type}(g:α→β):∀(l:List α),l.foldr (fun a r=>g a::r) []=l.map g
 | []=>rfl
 |a::r=>Us rfl (Oy g r)
theorem O8{α β:Type}{f g:α→β}{l:List α}(h:l.map f=l.foldr (fun a r=>g a::r) []){a:α}(ha:a∈l):f a=g a:=List.map_inj_left.mp (h.trans (Oy g l)) a ha
theorem Em{l:List IS}{T:Tb}{cf:Nat→List V→St→Res}{m:Nat}{s:IS}{lo lo1:Zd}{σ σ1:St}(h:kS T cf m s lo σ=some (.next,lo1,σ1)):kSs T cf m (s::l) lo σ=kSs T cf m l lo1 σ1:=by
 cases l with
 |nil=>exact h
 |cons t r=>exact Zqz h
theorem Wo{T:Tb}{cf:Nat→List V→St→Res}{m:Nat}:∀(a:List IS) {b:List IS} {lo lo1:Zd} {σ σ1:St},kSs T cf m a lo σ=some (.next,lo1,σ1)→kSs T cf m (a++b) lo σ=kSs T cf m b lo1 σ1
 | [],b,lo,lo1,σ,σ1,h=>by
   have e:=Prod.mk.inj (Prod.mk.inj (sj h)).2;rw[← e.1,← e.2];rfl
 | [s],b,lo,lo1,σ,σ1,h=>Em (l:=b) h
 |s::t::r,b,lo,lo1,σ,σ1,h=>Zqy h (fun lo2 σ2 h1 h2=>(Em (l:=t::(r++b)) h1).trans (Wo (t::r) h2)) fun v lo2 σ2 _ h2=>nomatch h2
theorem L5:∀(bs:List Bool),(∃m ts,bs=List.replicate m false++true::ts)∨bs=List.replicate bs.length false
 | []=> .inr rfl
 |true::r=> .inl ⟨0,r,rfl⟩
 |false::r=>(L5 r).imp (fun z=>z.elim fun m z=>z.elim fun ts e=>⟨m + 1,ts,Us rfl e⟩) fun e=>Us rfl e
theorem T5:∀{bs:List Bool},bs∈Lh bs.length
 | []=> .head _
 |b::r=>List.mem_flatMap.mpr ⟨r,T5,by
  cases b
  ·exact .head _
  ·exact .tail _ (.head _)⟩
theorem Ch(m:Nat)(ts:List Bool):hvB (List.replicate m false++true::ts)=1:=by
 unfold hvB;rw[List.any_append,List.any_cons,show id true=true from rfl,Bool.true_or,Bool.or_true];rfl
theorem Hj(c:Nat):hvB (List.replicate c false)=0:=by
 unfold hvB;rw[show(List.replicate c false).any id=false from List.any_eq_false.mpr fun x hx=>by rw[List.eq_of_mem_replicate hx];decide];rfl
theorem Zfa:Wn 88=some f88:=rfl
theorem C6(T:Tb)(d:Nat)(args:List V)(σ:St):U2 T Wn (d + 1) 88 args σ=Rd T (U2 T Wn d) f88 args σ:=Mp (x:=Wn 88) (f:=fun F=>Rd T (U2 T Wn d) F args σ) Zfa
theorem Zyn{T:Tb}{cf:Nat→List V→St→Res}{F:Fn}{args:List V}{σ σ1:St}{lo lo0:Zd}{v:V}(ha:Nat.beq args.length F.np=true)(hm:F.md=0)(hlo:args.map some++List.replicate (F.nl - F.np) none=lo0)(e:kSs T cf 0 F.body lo0 σ=some (.ret v,lo,σ1)):Rd T cf F args σ=some (v,σ1):=
 Tp (fl:= .ret v) (lo':=lo) (σ1:=σ1) ha (show kSs T cf F.md F.body _ σ=_ by rw[hm,hlo];exact e) (by rw[hm];rfl)
section
variable{c room:Nat}(H:Z8 c room){i:Nat}(hi:i < c){bs:List Bool}(hl:bs.length=c)(old:Nat→Option O)(pr:D)(sw:Nat)
include H hl
theorem Zfm:kF c i sw bs old ((f88.body.drop 4).take 1) (Sd c (hvB bs)) (sC pr c room)=some (.next,Sd c (hvB bs),sC pr c room):=
 (L5 bs).elim (fun z=>z.elim fun m z=>z.elim fun ts e=>by
   have hm:m < c:=by rw[← hl,e,List.length_append,List.length_replicate];exact Nat.lt_add_of_pos_right (Nat.zero_lt_succ _)
   rw[e,Ch]
   exact O8 (g:=fun _=>some (Fl.next,Sd c 1,sC pr c room)) (H.p5b old pr i sw ts) (List.mem_range.mpr hm)) fun e=>by
   rw[e,hl,Hj];exact H.p5a old pr i sw
include hi
theorem Zfn(hv:Int):kF c i sw bs old (f88.body.drop 5) (Sd c hv) (sC pr c room)=some (.ret (.dat (.bool true)),Sd c hv,sF pr c room i):=by
 have pa:∀ts,bs=List.replicate i false++ts→kF c i sw bs old (f88.body.drop 5) (Sd c hv) (sC pr c room)=some (.ret (.dat (.bool true)),Sd c hv,sF pr c room i):=fun ts e=>by
  rw[e];exact O8 (g:=fun i=>some (Fl.ret (.dat (.bool true)),Sd c hv,sF pr c room i)) (H.p6a old pr sw hv ts) (List.mem_range.mpr hi)
 have sp:∀m,i≤m→List.replicate m false=List.replicate i false++List.replicate (m - i) false:=fun m h=>by rw[List.replicate_append_replicate,Nat.add_sub_cancel' h]
 refine(L5 bs).elim (fun z=>z.elim fun m z=>z.elim fun ts e=>(Nat.lt_or_ge m i).elim (fun hm=> ?_) fun hm=>pa (List.replicate (m - i) false++true::ts) (by rw[e,sp m hm,List.append_assoc])) fun e=>pa _ (e.trans (sp _ (hl ▸ Nat.le_of_lt hi)));rw[e]
 exact O8 (f:=fun p:Nat×Nat=>kF c p.1 sw (List.replicate p.2 false++true::ts) old (f88.body.drop 5) (Sd c hv) (sC pr c room)) (g:=fun p=>some (Fl.ret (.dat (.bool true)),Sd c hv,sF pr c room p.1)) (H.p6b old pr sw hv ts) (a:=(i,m))
  (List.mem_flatMap.mpr ⟨i,List.mem_range.mpr hi,List.mem_map.mpr ⟨m,List.mem_range.mpr hm,rfl⟩⟩)
theorem Mi:kF c i sw bs old f88.body (Yam c) (sC pr c room)=some (.ret (.dat (.bool true)),Sd c (hvB bs),sF pr c room i):=by
 have hb:f88.body=f88.body.take 3++((f88.body.drop 3).take 1++((f88.body.drop 4).take 1++f88.body.drop 5)):=rfl;rw[hb];exact(Wo _ (H.p1 old pr i sw bs)).trans ((Wo _ (O8 (H.p4 old pr i sw) (hl ▸ T5))).trans ((Wo _ (Zfm H hl old pr sw)).trans (Zfn H hi hl old pr sw _)))
theorem L9:U2 (Tk (fxF c i sw bs) old) Wn 5 88 (Zds c) (sC pr c room)=some (.dat (.bool true),sF pr c room i):=(C6 _ _ _ _).trans (Zyn rfl rfl rfl (Mi H hi hl old pr sw))
end
theorem Uu{α:Type}{e:α→α→Bool}(he:∀x y,e x y=true→x=y):∀{a b:List α},Zb0 e a b=true→a=b
 | [],b,h=>Zt (M:=fun b=>[]=b) h fun _=>rfl
 |x::a,b,h=>Z6 (k:=fun y s=>e x y&&Zb0 e a s) (M:=fun b=>x::a=b) h fun y s h=>Us (he x y (a2 h).1) (Uu he (a2 h).2)
theorem L1{a b:List Int}:eqL a b=true→a=b:=Uu fun _ _=>Zu
theorem Fg{a b:List (Int×Int)}:eqP a b=true→a=b:=Uu fun _ _ h=>Prod.ext (Zu (a2 h).1) (Zu (a2 h).2)
theorem D1{a b:List (Int×List (Int×Int))}:Ya5 a b=true→a=b:=Uu fun _ _ h=>Prod.ext (Zu (a2 h).1) (Fg (a2 h).2)
theorem D0{a b:List (Int×List Int)}:Ya4 a b=true→a=b:=Uu fun _ _ h=>Prod.ext (Zu (a2 h).1) (L1 (a2 h).2)
@[elab_as_elim] theorem Zny {α:Type} {r:α} {d:D} {f:Int→Int→Option α} (h:prI d f=some r) {M:D→Prop} (k:∀a b,f a b=some r→M (.tuple [.int a,.int b])):M d:=Mf h fun l h=>Zqk (M:=fun l=>M (.tuple l)) h fun x y h=>Vf (M:=fun x=>M (.tuple [x,y])) h fun a h=>Vf (M:=fun y=>M (.tuple [.int a,y])) h fun b h=>k a b h
theorem D3{a b:D}(h:Ya6 a b=some ()):a=b:=Zny (M:=fun a=>a=b) h fun x y h=>Zny (M:=fun b=> .tuple [.int x,.int y]=b) h fun c d h=>Zl h fun h _=>by rw[Zu (a2 h).1,Zu (a2 h).2]
theorem Zf5{W V:Wd}(h:eqW W V=true):W=V:=T1 h fun h1 h2 h3 h=>T2 h fun h4 h5 h6 h7 h8=>by
 obtain⟨a1,a2,a3,a4,a5,a6,a7,a8⟩:=W;obtain⟨b1,b2,b3,b4,b5,b6,b7,b8⟩:=V;have e1:a1=b1:=Nat.eq_of_beq_eq_true h1;have e2:a2=b2:=Ro h2 fun u h2=>D3 h2;have e3:a3=b3:=Zu h3;have e4:a4=b4:=D1 h4;have e5:a5=b5:=Zu h5;have e6:a6=b6:=D0 h6;have e7:a7=b7:=Fg h7;have e8:a8=b8:=Nat.eq_of_beq_eq_true h8;rw[e1,e2,e3,e4,e5,e6,e7,e8]
theorem G1{σ:St}{w:Wd}(h1:Nat.beq σ.base 247=true)(h2:Nat.beq σ.next 247=true)(h3:σ.tmp.isEmpty=true)(h4:σ.w=some w):σ=⟨247,247,[],some w⟩:=by
 obtain⟨b,n,t,x⟩:=σ;rw[show x=_ from h4,show b=_ from Nat.eq_of_beq_eq_true h1,show n=_ from Nat.eq_of_beq_eq_true h2,show t=_ from List.isEmpty_iff.mp h3]
theorem Zg1{v:Wd}{σ:St}(h:isC v σ=true):σ=⟨247,247,[],some v⟩:=T1 h fun h1 h2 h3 h4=>M9 h4 fun w h4 h5=>G1 h1 h2 h3 (h4.trans (congrArg some (Zf5 h5)))
theorem Zse{sw c room i:Nat}{args:List V}{σ σ':St}{v:V}(h:g88 sw c room i args σ=some (v,σ')){M:List V→St→V→St→Prop}(k:M (Zds c) (sC (prC sw) c room) (.dat (.bool true)) (sF (prC sw) c room i)):M args σ v σ':=
 Wu (M:=fun args=>M args σ v σ') h fun x r h=>Wu (M:=fun r=>M (x::r) σ v σ') h fun a r h=>Wu (M:=fun r=>M (x::a::r) σ v σ') h fun b r h=>Zqk (M:=fun r=>M (x::a::b::r) σ v σ') h fun n z h=>
 Ew (M:=fun x=>M [x,a,b,n,z] σ v σ') h fun l h=>Zgn (M:=fun l=>M [.loc l,a,b,n,z] σ v σ') h fun h=>Q6 (M:=fun a=>M [.loc .w,a,b,n,z] σ v σ') h fun a h=>Q6 (M:=fun b=>M [.loc .w,.dat (.int a),b,n,z] σ v σ') h fun b h=>Q6 (M:=fun n=>M [.loc .w,.dat (.int a),.dat (.int b),n,z] σ v σ') h fun n h=>Q6 (M:=fun z=>M [.loc .w,.dat (.int a),.dat (.int b),.dat (.int n),z] σ v σ') h fun z h=>
 Zl h fun g h=>T2 g fun g1 g2 g3 g4 g5=>by
  rw[Zu g1,Zu g2,Zu g3,Zu g4,Zg1 g5];exact Z0 (M:=fun v σ'=>M _ _ v σ') h k
theorem rc5{a k d d' e:Nat}{l:Nat}(h:a + k * d + e < l)(h':d'≤d):a + k * d' + e < l:=Nat.lt_of_le_of_lt (Nat.add_le_add_right (Nat.add_le_add_left (Nat.mul_le_mul_left k h') _) _) h
theorem RoomC.mono{A:Around}{d d':Nat}(r:RoomC A d)(h:d'≤d):RoomC A d':=⟨r.1,rc5 r.2.1 h,rc5 r.2.2 h⟩
theorem Sm{C:Cx}{mg mb:Str→Option Value}(X:Vr C mg mb){fx:List Fact}{old:Nat→Option O}(hT:C.T=Tk fx old)(hf:∀f F,Wn f=some F→E2 C f F)(S:Ma old)
 {g:List V→St→Res} (hg:∀args σ v σ',g args σ=some (v,σ')→U2 C.T Wn 5 88 args σ=some (v,σ')):∀d,SoundCF C (d + 20) (C5 g C.T Wn d)
 |0=>fun f vs σ v σ' e=>nn e
 |d + 1=>fun f vs σ v σ' e A s ρ xs B rm r vr q=>Vc (b:=Nat.beq f 66) e (fun h e=>Vp X hf 7 f vs σ v σ' (by rw[Nat.eq_of_beq_eq_true h];rw[hT] at e ⊢;exact N6 S e r.old) xs B (rm.mono (Nat.le_add_left_of_le (by decide))) r vr q)
  fun _ e=>Vc (b:=Nat.beq f 88) e (fun h e=>Xn X hT hf S 5 f vs σ v σ' (Nat.eq_of_beq_eq_true h ▸ hg _ _ _ _ e) xs B (rm.mono (Nat.le_add_left_of_le (by decide))) r vr q)
  fun _ e=>Za e fun F hF e=>Uq X (hf f F hF) (Sm X hT hf S hg d) e xs B rm r vr q
theorem Cf(k:Int)(r:Int)(h:0≤r)(h':r < 604462909807314587353088):hiC (k * 1208925819614629174706176 + r)=k:=by
 unfold hiC;rw[Int.add_assoc,Int.add_comm,Int.add_mul_ediv_right _ _ (by decide)];rw[Int.ediv_eq_zero_of_lt (Int.add_nonneg h (by decide)) (show r + 604462909807314587353088 < 1208925819614629174706176 from Int.add_lt_add_right h' 604462909807314587353088),Int.zero_add]
theorem Zah(val:Int→Int)(k:Nat)(r:Int)(h:0≤r)(h':r < 604462909807314587353088):vC val (uk k + r)=val k + r:=by
 have e:uk k=(k:Int) * 1208925819614629174706176:=rfl;unfold vC;rw[e,Cf k r h h',Int.add_comm _ r,Int.add_sub_cancel,Int.add_comm]
theorem N5(val:Int→Int)(k:Nat):vC val (uk k)=val k:=by
 have:=Zah val k 0 (by decide) (by decide);rw[Int.add_zero,Int.add_zero] at this;exact this
theorem Qz(val:Int→Int)(k:Nat):vC val (uk k + 1)=val k + 1:=Zah val k 1 (by decide) (by decide)
theorem Yu{val:Int→Int}(h0:val 0=0){m:Nat}(h:m≤100000):vC val (m:Int)=m:=Zo h0 (U7 h)
noncomputable def qL (q:Int):List Int:=[q.fmod 10,q,q.fdiv 20,q.fdiv 10,(q.fdiv 20).fdiv 7,(q.fdiv 20).fdiv 11,((q.fdiv 20).fdiv 11).fmod 9,(q.fdiv 20).fdiv 25,((q.fdiv 20).fdiv 25).fmod 9,(q.fdiv 20).fdiv 5,(q.fdiv 20).fdiv 2]
noncomputable def qv (q:Int) (n:Nat):Int:=((qL q)[n]?).getD 0
noncomputable def nvN (t:Nat→Int) (ys:List Int) (q:Int) (n:Nat):Int:=bp (Nat.beq n 0) 0 (bp (Nat.blt n 19) (t n) (bp (Nat.blt n 30) (qv q (n - 19)) ((ys[n - 30]?).getD 0)))
noncomputable def nv (t:Nat→Int) (ys:List Int) (q:Int) (i:Int):Int:=Int.rec (nvN t ys q) (fun _=>0) i
theorem W7{a:Int}(h:0≤a)(m:Nat):0≤a.fdiv m:=by
 rw[Int.fdiv_eq_ediv_of_nonneg _ (Int.natCast_nonneg m)];exact Int.ediv_nonneg h (Int.natCast_nonneg m)
theorem X9(a:Int){m:Nat}(h:0 < m):0≤a.fmod m∧a.fmod m < m:=by
 rw[Int.fmod_eq_emod_of_nonneg _ (Int.natCast_nonneg m)];exact⟨Int.emod_nonneg _ (Int.ofNat_ne_zero.mpr (Nat.ne_of_gt h)),Int.emod_lt_of_pos _ (Int.ofNat_lt.mpr h)⟩
theorem Sx{l:List Int}(h:∀y∈l,0≤y)(n:Nat):0≤(l[n]?).getD 0:=by
 cases e:l[n]? with
 |none=>exact Int.le_refl 0
 |some y=>exact h y (List.mem_of_getElem? e)
theorem Zo1{q:Int}(h:0≤q):∀y∈qL q,0≤y:=by
 have z:=W7 h 20;have M:=fun(a:Int) (m:Nat) (h:0 < m)=>(X9 a h).1;have C:=fun{a:Int} {l:List Int} (h:0≤a) (k:∀y∈l,0≤y)=>List.forall_mem_cons.mpr ⟨h,k⟩;exact C (M q 10 (by decide)) (C h (C z (C (W7 h 10) (C (W7 z 7) (C (W7 z 11) (C (M _ 9 (by decide)) (C (W7 z 25) (C (M _ 9 (by decide)) (C (W7 z 5) (C (W7 z 2) fun _ h=>absurd h List.not_mem_nil))))))))))
theorem Yaq(t:Nat→Int)(ys:List Int)(q:Int){n:Nat}(h:0 < n)(h2:n < 19):nv t ys q (n:Int)=t n:=by
 show nvN t ys q n=_;unfold nvN;rw[show Nat.beq n 0=false from Bool.eq_false_iff.mpr fun e=>Nat.ne_of_gt h (Nat.eq_of_beq_eq_true e),Wt h2];rfl
theorem Yap(t:Nat→Int)(ys:List Int)(q:Int){n:Nat}(h:n < 11):nv t ys q ((19 + n:Nat):Int)=qv q n:=by
 show nvN t ys q (19 + n)=_;unfold nvN;rw[show Nat.beq (19 + n) 0=false from Bool.eq_false_iff.mpr fun e=>Nat.ne_of_gt (Nat.lt_of_lt_of_le (by decide) (Nat.le_add_right 19 n)) (Nat.eq_of_beq_eq_true e),Uo (Nat.not_lt.mpr (Nat.le_add_right 19 n)),Wt (Nat.add_lt_add_left h 19),Nat.add_sub_cancel_left];rfl
theorem Zqo(t:Nat→Int)(ys:List Int)(q:Int)(n:Nat):nv t ys q ((30 + n:Nat):Int)=(ys[n]?).getD 0:=by
 have h:=Nat.le_add_right 30 n;show nvN t ys q (30 + n)=_;unfold nvN;rw[show Nat.beq (30 + n) 0=false from Bool.eq_false_iff.mpr fun e=>Nat.ne_of_gt (Nat.lt_of_lt_of_le (by decide) h) (Nat.eq_of_beq_eq_true e),Uo (Nat.not_lt.mpr (Nat.le_trans (by decide) h)),Uo (Nat.not_lt.mpr h),Nat.add_sub_cancel_left];rfl
structure QvOk(val:Int→Int)(q:Int):Prop where
 v0:val 0=0
 nn:0≤q
 at_:∀n:Nat,n < 11→val (19 + n:Nat)=qv q n
 el:∀n:Nat,0≤val (30 + n:Nat)
def Hol(ν:Int→Int)(Φ:List Fact):Prop:=∀f∈Φ,f.Holds ν
def Cov(ν:Int→Int)(L:List (List Fact)):Prop:=∃Ψ∈L,Hol ν Ψ
section
variable{ν:Int→Int}
theorem Yj{f:Fact}{Φ:List Fact}(h:f.Holds ν)(k:Hol ν Φ):Hol ν (f::Φ):=List.forall_mem_cons.mpr ⟨h,k⟩
theorem Tv:Hol ν []:=fun _ h=>absurd h List.not_mem_nil
theorem Cg{a b:List Fact}(h:Hol ν a)(k:Hol ν b):Hol ν (a++b):=fun f hf=>(List.mem_append.mp hf).elim (h f) (k f)
theorem Zfv{α:Type}{g:α→Fact}{l:List α}(h:∀x∈l,(g x).Holds ν):Hol ν (l.map g):=fun f hf=>(List.mem_map.mp hf).elim fun x z=>z.2 ▸ h x z.1
theorem Rx:Cov ν [[]]:=⟨[],.head _,Tv⟩
theorem Pc{b:Bool}{x y:List (List Fact)}(h:b=true→Cov ν x)(k:b=false→Cov ν y):Cov ν (bp b x y):=by
 cases b with
 |true=>exact h rfl
 |false=>exact k rfl
theorem I4{α:Type}{g:α→List Fact}{l:List α}{x:α}(hx:x∈l)(h:Hol ν (g x)):Cov ν (l.map g):=⟨_,List.mem_map.mpr ⟨x,hx,rfl⟩,h⟩
theorem Fd{g:List Fact→List Fact}{l:List (List Fact)}(h:Cov ν l)(k:∀Ψ,Hol ν Ψ→Hol ν (g Ψ)):Cov ν (l.map g):=h.elim fun Ψ z=>I4 z.1 (k Ψ z.2)
theorem Zef{α:Type}{g:α→List (List Fact)}{l:List α}{x:α}(hx:x∈l)(h:Cov ν (g x)):Cov ν (l.flatMap g):=h.elim fun Ψ z=>⟨Ψ,List.mem_flatMap.mpr ⟨x,hx,z.1⟩,z.2⟩
end
section
variable{val:Int→Int}{q:Int}(H:QvOk val q)
include H
theorem QvOk.uk(n:Nat)(h:n < 11:=by decide):vC val (Mine.uk (19 + n))=qv q n:=by rw[N5,H.at_ n h]
theorem Ja{m:Nat}(hm:0 < m)(hm2:m≤1000):vC val (m:Int)≠0:=by
 rw[Yu H.v0 (Nat.le_trans hm2 (by decide))];exact Int.ofNat_ne_zero.mpr (Nat.ne_of_gt hm)
theorem QvOk.div{a b m:Nat}(e:qv q b=(qv q a).fdiv m)(ha:a < 11:=by decide)(hb:b < 11:=by decide)(hm:0 < m:=by decide)(hm2:m≤1000:=by decide):(Fact.ar 0 (Mine.uk (19 + a)) (m:Nat) (Mine.uk (19 + b))).Holds (vC val):=by
 refine⟨Ja H hm hm2,?_,?_⟩
 ·rw[Yu H.v0 (Nat.le_trans hm2 (by decide))]
  exact Nat.lt_of_le_of_lt hm2 (by decide)
 ·rw[Yu H.v0 (Nat.le_trans hm2 (by decide)),H.uk a ha,H.uk b hb]
  exact e
theorem QvOk.mod{a m:Nat}{i:Int}(e:vC val i=(qv q a).fmod m)(ha:a < 11:=by decide)(hm:0 < m:=by decide)(hm2:m≤1000:=by decide):(Fact.ar 1 (Mine.uk (19 + a)) (m:Nat) i).Holds (vC val):=
 ⟨Ja H hm hm2,by rw[Yu H.v0 (Nat.le_trans hm2 (by decide)),H.uk a ha];exact e⟩
theorem QvOk.modN{m:Nat}(a:Nat)(ha:a < 11)(hm:0 < m)(hm2:m≤1000){P:Prop}(k:∀i:Nat,i < m→(qv q a).fmod m=(i:Int)→(Fact.ar 1 (Mine.uk (19 + a)) (m:Nat) (i:Nat)).Holds (vC val)→P):P:=
 have z:=X9 (qv q a) hm
 (Int.eq_ofNat_of_zero_le z.1).elim fun i hi=>have hl:i < m:=Int.ofNat_lt.mp (hi ▸ z.2);k i hl hi (H.mod (by rw[Yu H.v0 (Nat.le_trans (Nat.le_of_lt hl) (Nat.le_trans hm2 (by decide)))];exact hi.symm) ha hm hm2)
theorem QvOk.fxQ:Hol (vC val) Mine.fxQ:=Yj (H.div (a:=1) (b:=2) (m:=20) rfl) (Yj (H.div (a:=1) (b:=3) (m:=10) rfl) (Yj (H.div (a:=2) (b:=5) (m:=11) rfl) (Yj (H.mod (a:=5) (m:=9) (i:=Mine.uk 25) (H.uk 6)) Tv)))
theorem QvOk.pMd{m:Nat}(a:Nat)(ha:a < 11)(hm:0 < m)(hm2:m≤1000):Cov (vC val) (Mine.pMd (Mine.uk (19 + a)) m):=H.modN a ha hm hm2 fun i h1 _ h2=>I4 (List.mem_range.mpr h1) (Yj h2 Tv)
theorem QvOk.pM0{m:Nat}(hm2:m≤1000):Cov (vC val) (Mine.pM0 (Mine.uk 21) m):=Pc (fun _=>Rx) fun h=>H.pMd 2 (by decide) (Nat.pos_of_ne_zero fun z=>by rw[z] at h;exact nf h.symm) hm2
theorem QvOk.pTwo{c:Nat}(hc:2≤c)(hc2:c≤1000):Cov (vC val) (Mine.pTwo c):=H.modN (m:=c - 1) 2 (by decide) (Nat.sub_pos_of_lt hc) (Nat.le_trans (Nat.sub_le ..) hc2) fun i h1 _ h2=>
 H.modN (m:=c - 1 - i) 4 (by decide) (Nat.sub_pos_of_lt h1) (Nat.le_trans (Nat.le_trans (Nat.sub_le ..) (Nat.sub_le ..)) hc2) fun k h3 _ h4=>Zef (List.mem_range.mpr h1) (I4 (List.mem_range.mpr h3) (Yj h2 (Yj (H.div (a:=2) (b:=4) (m:=7) rfl) (Yj h4 Tv))))
theorem QvOk.pS1{m:Nat}(hm:0 < m)(hm2:m≤1000):Cov (vC val) (Mine.pS1 m):=Fd (H.pMd 9 (by decide) hm hm2) fun Ψ h=>Yj (H.div (a:=2) (b:=9) (m:=5) rfl) h
theorem QvOk.sort{c:Nat}(hc:c < 1000):Cov (vC val) (pSr c):=H.modN (m:=5) 2 (by decide) (by decide) (by decide) fun s h1 _ h2=>
 Zef (List.mem_range.mpr h1) (Fd (Pc (fun _=>Rx) fun h=>have h0:=Nat.pos_of_ne_zero fun z=>by rw[z] at h;exact nf h.symm
  Pc (fun _=>H.pS1 (Nat.zero_lt_succ c) hc) fun _=>Pc (fun _=>H.pS1 h0 (Nat.le_of_lt hc)) fun _=>Rx) fun Ψ h=>Yj h2 (Yj (H.div (a:=2) (b:=7) (m:=25) rfl) (Yj (H.mod (a:=7) (m:=9) (i:=Mine.uk 27) (H.uk 8)) h)))
omit H in
theorem Yie{b k:Nat}{x:Int}(h:x.fmod 2=(b:Int)):(((b + k) % 2:Nat):Int)=(x + (k:Int)).fmod 2:=by
 rw[Int.fmod_eq_emod_of_nonneg _ (by decide)] at h ⊢;rw[Int.natCast_emod,Int.natCast_add,← h];exact Int.emod_add_emod ..
theorem QvOk.again{c:Nat}(hc:c≤6):Cov (vC val) (pAg c):=H.modN (m:=2) 2 (by decide) (by decide) (by decide) fun s h1 _ h2=>by
 cases s with
 |zero=>
  have z:Cov (vC val) ((List.range 2).map fun b=> .ar 1 (Mine.uk 21) 2 0:: .ar 0 (Mine.uk 21) 2 (Mine.uk 29)::(List.range c).map fun(k:Nat)=> .ar 1 (Mine.uk 29 + k) 2 ((b + k) % 2:Nat)):=H.modN (m:=2) 10 (by decide) (by decide) (by decide) fun b b1 b2 b3=>
   I4 (List.mem_range.mpr b1) (Yj h2 (Yj (H.div (a:=2) (b:=10) (m:=2) rfl) (Zfv fun k hk=>⟨Ja (m:=2) H (by decide) (by decide),by
    have hk:=List.mem_range.mp hk;rw[show vC val 2=2 from Yu (m:=2) H.v0 (by decide),Yu H.v0 (Nat.le_trans (Nat.le_of_lt (Nat.mod_lt _ (by decide))) (by decide)),Zah val 29 k (Int.natCast_nonneg k) (Int.lt_of_lt_of_le (Int.ofNat_lt.mpr hk) (Int.le_trans (Int.ofNat_le.mpr hc) (by decide))),show val ((29:Nat):Int)=qv q 10 from H.at_ 10 (by decide)]
    exact Yie b2⟩)))
  exact z.elim fun Ψ z=>⟨Ψ,.tail _ z.1,z.2⟩
 |succ s=>
  rw[show s=0 from Nat.lt_one_iff.mp (Nat.succ_lt_succ_iff.mp h1)] at h2;exact⟨_,.head _,Yj h2 Tv⟩
theorem QvOk.cover{c:Nat}(hc:c≤7)(op:Nat):Cov (vC val) (B9 c op):=by
 have C:=fun{a:List (List Fact)} {l:List (List (List Fact))} (h:Cov (vC val) a) (k:∀y∈l,Cov (vC val) y)=>List.forall_mem_cons.mpr ⟨h,k⟩;have hc':c < 1000:=Nat.lt_of_le_of_lt hc (by decide);have hl:=Nat.le_of_lt hc'
 have all:∀L∈pL c,Cov (vC val) L:=C Rx (C (H.pMd 2 (by decide) (Nat.zero_lt_succ c) hc') (C (H.pM0 hl) (C (Pc (fun _=>H.pTwo (Nat.le_add_left 2 c) (Nat.le_trans (Nat.add_le_add_right hc 2) (by decide))) fun h=>H.pTwo (Nat.le_trans (by decide) (Nat.not_lt.mp fun z:c < 4=>nf (h.symm.trans (Wt z)))) hl)
  (C (Pc (fun h=>H.pTwo (Zz h) hl) fun _=>Rx) (C (Pc (fun h=>H.again (Nat.le_of_lt (Zz h))) fun _=>Rx) (C (H.sort hc') (C Rx (C (H.pMd 2 (by decide) (by decide) (by decide)) (C (H.pM0 hl) fun _ h=>absurd h List.not_mem_nil)))))))))
 unfold B9;cases e:(pL c)[op]? with
 |none=>exact Rx
 |some L=>exact all L (List.mem_of_getElem? e)
end
end Mine
namespace Mine
open PySem PySem.W PySem.Calls PyProof.Rows
set_option genInjectivity false
theorem litDs_all:∀{l:List D},Y8 l=l.all Q4
 | []=>rfl
 |d::r=>(congrArg (Q4 d&& ·) (litDs_all (l:=r)):(Q4 d&&Y8 r)=_)
structure Ix(C C':Cx):Prop where
 v0:C.val 0=0
 v0':C'.val 0=0
 K:C'.K=C.K
 nm:C'.nm=C.nm
 cl:C'.cl=C.cl
 prog:C'.prog=C.prog
 wld:C'.wld=C.wld
 sta:C'.sta=C.sta
 at_:C'.T.attrs=C.T.attrs
structure Tn2(C C':Cx)(σ σ':St)(ρ ρ':Rho):Prop where
 own:∀b,Own C' σ' ρ' b→Own C σ ρ b
 dom:∀n,Dom σ (.id n)→Dom σ' (.id n)
 rho:∀n,ρ' (.id n)=ρ (.id n)
 rhod:∀n,ρ' (.idd n)=ρ (.idd n)
 live:∀l,Z2 C' σ' l→∃l0,Z2 C σ l0∧ρ' l=ρ l0
section
variable{C C':Cx}{σ σ':St}{ρ ρ':Rho}{h:Heap}(sm:Ix C C')(tn:Tn2 C C' σ σ' ρ ρ')
include tn
theorem Tn2.q:Z4 h (Own C σ ρ) h (Own C' σ' ρ'):=⟨fun _ _ _ _ _ g _=>g,fun b _ _ _ n _ _ o=>n (tn.own b o)⟩
include sm
theorem RdD.cx{d:D}{x:Value}(l:Q4 d=true)(e:RdD h (Own C σ ρ) (mD C.ν d) x):RdD h (Own C' σ' ρ') (mD C'.ν d) x:=by
 rw[Se sm.v0 l] at e;rw[Se sm.v0' l];exact RdD.staysQ tn.q e
theorem RdDs.cx{d:List D}{x:List Value}(l:Y8 d=true)(e:RdDs h (Own C σ ρ) (mDs C.ν d) x):RdDs h (Own C' σ' ρ') (mDs C'.ν d) x:=by
 rw[Va sm.v0 l] at e;rw[Va sm.v0' l];exact RdDs.staysQ tn.q e
theorem VR.cx{v:V}{x:Value}(l:Rk v=true)(e:VR C σ ρ h v x):VR C' σ' ρ' h v x:=by
 cases v with
 |dat d=>exact RdD.cx sm tn l e
 |loc k=>exact Ro l fun m l=>Zb3 (M:=fun k=>VR C σ ρ h (.loc k) x→VR C' σ' ρ' h (.loc k) x) l (fun n _ e=>⟨e.1.trans (by rw[tn.rho]),tn.dom n e.2⟩) e
theorem VRs.cx:∀{l:List V} {xs:List Value},l.all Rk=true→VRs C σ ρ h l xs→VRs C' σ' ρ' h l xs
 | [],xs,_,e=>e
 |v::r,xs,l,e=>VRs.cons_e (M:=VRs C' σ' ρ' h (v::r)) e fun x xs' e2 e3=>⟨x,xs',rfl,e2.cx sm tn (a2 (a:=Rk v) l).1,VRs.cx (a2 (a:=Rk v) l).2 e3⟩
theorem NkEnts.cx:∀{l:List (D×V)} {xs:List (List NK×Addr×Value)},(l.all fun p=>Rk p.2)=true→NkEnts C σ ρ h l xs→NkEnts C' σ' ρ' h l xs
 | [],xs,_,e=>e
 |(kk,v)::r,xs,l,e=>e.cons_e (M:=fun kk xs=>NkEnts C' σ' ρ' h ((kk,v)::r) xs) fun ds ks b x xs' e3 e4 e5 e6 e7=>⟨ds,ks,b,x,xs',rfl,rfl,e3,e4,RdD.staysQ tn.q e5,e6.cx sm tn (a2 (a:=Rk v) l).1,NkEnts.cx (a2 (a:=Rk v) l).2 e7⟩
theorem IntEnts.cx:∀{l:List (D×V)} {xs:List (Int×Value)},(l.all fun p=>Rk p.2)=true→IntEnts C σ ρ h l xs→IntEnts C' σ' ρ' h l xs
 | [],xs,_,e=>e
 |(kk,v)::r,xs,l,e=>e.cons_e (M:=fun kk xs=>IntEnts C' σ' ρ' h ((kk,v)::r) xs) fun i x xs' e2 e3 e4=>⟨x,xs',rfl,e2,e3.cx sm tn (a2 (a:=Rk v) l).1,IntEnts.cx (a2 (a:=Rk v) l).2 e4⟩
theorem Atts.cx:∀{l:List V} {as:List Nat} {xs:List DictEntry},l.all Rk=true→Atts C σ ρ h as l xs→Atts C' σ' ρ' h as l xs
 | [],as,xs,_,e=>by cases as <;> exact e
 |v::r,as,xs,l,e=>e.cons_e (M:=fun as xs=>Atts C' σ' ρ' h as (v::r) xs) fun a as x xs' t e2 e3 e4=>⟨x,xs',t,rfl,sm.nm.symm ▸ e2,e3.cx sm tn (a2 (a:=Rk v) l).1,Atts.cx (a2 (a:=Rk v) l).2 e4⟩
theorem DictRep.cx{a:Addr}{l:List (D×V)}(g:(l.all fun p=>Rk p.2)=true)(e:DictRep C σ ρ h a l):DictRep C' σ' ρ' h a l:=by
 cases l with
 |nil=>exact e
 |cons p r=>exact Ff e (fun e=>Exists.elim e fun kvs e=>⟨kvs,by rw[sm.prog,sm.wld];exact e.1,e.2.cx sm tn g⟩) fun e=>Exists.elim e fun xs e=>⟨xs,by rw[sm.prog,sm.wld];exact e.1,e.2.cx sm tn g⟩
theorem RepO.cx{n:Nat}{o:O}(l:Be o=true)(e:RepO C σ ρ h n o):RepO C' σ' ρ' h n o:=by
 have L:∀{items},IsLx h (ρ (.id n)) items→IsLx h (ρ' (.id n)) items:=fun e=>(tn.rho n).symm ▸ e;cases o with
 |dl r=>exact Exists.elim e fun items e=>⟨items,L e.1,RdDs.cx sm tn (litDs_all.trans (List.all_reverse.trans (litDs_all.symm.trans l))) e.2⟩
 |rev r=>exact Exists.elim e fun items e=>⟨items,L e.1,VRs.cx sm tn (List.all_reverse.trans l) e.2⟩
 |list r=>exact Exists.elim e fun items e=>⟨items,L e.1,VRs.cx sm tn l e.2⟩
 |dead=>trivial
 |inst c vs=>exact⟨by rw[tn.rho,tn.rhod,sm.cl];exact e.1,e.2.elim fun es e=>⟨es,e.elim fun ep e=>⟨ep,(tn.rhod n).symm ▸ e.1,sm.at_.symm ▸ Atts.cx sm tn l e.2⟩⟩⟩
 |dict es=>exact DictRep.cx sm tn l ((tn.rho n).symm ▸ e:DictRep C σ ρ h (ρ' (.id n)) es)
end
theorem R.rebase{C C':Cx}(sm:Ix C C'){σ:St}{ρ:Rho}{h:Heap}(r:R C σ ρ h)(hw:σ.w=none)(ho:C'.T.old=Zj C.T.old σ)(lit:∀n o,C.get σ n=some o→Be o=true):
 R C' ⟨σ.next,σ.next,[],none⟩ ρ h∧Tn2 C C' σ ⟨σ.next,σ.next,[],none⟩ ρ ρ:=by
 have hg:∀{n o},C'.get ⟨σ.next,σ.next,[],none⟩ n=some o→C.get σ n=some o:=fun{n o} e=>by
  by_cases z:n < σ.next
  ·exact(congrFun ho n).symm.trans ((Y0 (σ:=⟨σ.next,σ.next,[],none⟩) z).symm.trans e)
  ·exact nn ((Xs (σ:=⟨σ.next,σ.next,[],none⟩) z z).symm.trans e)
 have lv:∀{l},Z2 C' ⟨σ.next,σ.next,[],none⟩ l→Z2 C σ l:=fun{l} d=>by
  cases l with
  |id n=>exact d.elim fun o d=>⟨o,hg d.1,d.2⟩
  |idd n=>exact d.elim fun c d=>d.elim fun vs d=>⟨c,vs,hg d⟩
  |_=>exact d.elim fun w d=>nn d.1
 have ny:∀{l} {P:Prop},Z2 C' ⟨σ.next,σ.next,[],none⟩ l→X6 ⟨σ.next,σ.next,[],none⟩ l→P:=fun{l P} d y=>by
  cases l with
  |id n=>exact(lv d).elim fun o z=>absurd (r.at z.1) (Nat.not_lt.mpr y)
  |idd n=>exact(lv d).elim fun c z=>z.elim fun vs z=>absurd (r.at z) (Nat.not_lt.mpr y)
  |_=>exact d.elim fun w d=>nn d.1
 have tn:Tn2 C C' σ ⟨σ.next,σ.next,[],none⟩ ρ ρ:=⟨fun b z=>z.elim fun l z=>ny z.1 z.2.1,fun _ d=>d,fun _=>rfl,fun _=>rfl,fun l d=>⟨l,lv d,rfl⟩⟩;exact⟨⟨sm.K.symm ▸ r.fr,fun n o e=>(r.rep n o (hg e)).cx sm tn (lit n o (hg e)),fun w e=>nn e,fun l l' d d'=>r.inj l l' (lv d) (lv d'),fun l d y=>ny d y,Nat.le_refl _,fun n a e=>have z:=r.sta n a (sm.sta ▸ e);⟨z.1,Nat.lt_of_lt_of_le z.2 r.old⟩,sm.K.symm ▸ r.sysK,fun l d=>r.sys l (lv d)⟩,tn⟩
def FldRel(ν ν':Int→Int):List (Int×Int)→List (Int×Int)→Prop
 | [],l=>l=[]
 |(k,v)::r,l=>∃v0 r0,l=(k,v0)::r0∧ν' v=ν v0∧FldRel ν ν' r r0
theorem FldRel.cons_e{ν ν':Int→Int}{k v:Int}{r l:List (Int×Int)}(e:FldRel ν ν' ((k,v)::r) l){M:List (Int×Int)→Prop}(f:∀v0 r0,ν' v=ν v0→FldRel ν ν' r r0→M ((k,v0)::r0)):M l:=Exists.elim e fun v0 e=>Exists.elim e fun r0 e=>e.1.symm ▸ f v0 r0 e.2.1 e.2.2
theorem NumEnts.rel{ν ν':Int→Int}:∀{fs fs0:List (Int×Int)} {kvs:List (Int×Value)},FldRel ν ν' fs fs0→NumEnts ν fs0 kvs→NumEnts ν' fs kvs
 | [],fs0,kvs,e,q=>by rw[show fs0=[] from e] at q;exact q
 |(k,v)::r,fs0,kvs,e,q=>FldRel.cons_e (M:=fun l=>NumEnts ν l kvs→NumEnts ν' ((k,v)::r) kvs) e (fun v0 r0 e1 e2 q=>NumEnts.cons_e (M:=NumEnts ν' ((k,v)::r)) q fun t es' q1 q2=>⟨t,es',by rw[e1],q1,NumEnts.rel e2 q2⟩) q
theorem Nums.rel{ν ν':Int→Int}:∀{xs ys:List Int} {vs:List Value},xs.map ν'=ys.map ν→Nums ν ys vs→Nums ν' xs vs
 | [],[],vs,_,q=>q
 |x::xs,[],vs,e,q=>nomatch e
 | [],y::ys,vs,e,q=>nomatch e
 |x::xs,y::ys,vs,e,q=>have e:=List.cons.inj e;Nums.cons_e (M:=Nums ν' (x::xs)) q fun t vs' q1=>⟨vs',t,by rw[e.1],Nums.rel e.2 q1⟩
structure Rn(C C':Cx)(W W':Wd)(τo τa:Int→Int):Prop where
 sid:W'.sid=W.sid
 pair:mD C'.ν W'.pair=mD C.ν W.pair
 nobj:C'.ν W'.nobj=C.ν W.nobj
 narr:C'.ν W'.narr=C.ν W.narr
 bnd:W.bnd + C.slack≤W'.bnd + C'.slack
 bd:W'.bnd≤200000
 obj:∀k fs,Zc W'.obj k=some fs→∃fs0,Zc W.obj (τo k)=some fs0∧C'.ν k=C.ν (τo k)∧FldRel C.ν C'.ν fs fs0
 arr:∀k xs,Zc W'.arr k=some xs→∃xs0,Zc W.arr (τa k)=some xs0∧C'.ν k=C.ν (τa k)∧xs.map C'.ν=xs0.map C.ν
 vers:∀k v,Zc W'.vers k=some v→(Zc W'.obj k).isSome∧∃v0,Zc W.vers (τo k)=some v0∧C'.ν v=C.ν v0
 io:∀k k',(Zc W'.obj k).isSome→(Zc W'.obj k').isSome→τo k=τo k'→k=k'
 ia:∀k k',(Zc W'.arr k).isSome→(Zc W'.arr k').isSome→τa k=τa k'→k=k'
def Iu(τo τa:Int→Int):Lc→Lc
 |.obj k=> .obj (τo k)
 |.arr k=> .arr (τa k)
 |l=>l
theorem FldRel.len{ν ν':Int→Int}:∀{fs fs0:List (Int×Int)},FldRel ν ν' fs fs0→fs.length=fs0.length
 | [],fs0,e=>by rw[show fs0=[] from e]
 |(k,v)::r,fs0,e=>FldRel.cons_e (M:=fun l=>r.length + 1=l.length) e fun v0 r0 _ e2=>congrArg (· + 1) (FldRel.len e2)
section
variable{C C':Cx}{W W':Wd}{τo τa:Int→Int}(rn:Rn C C' W W' τo τa)
include rn
theorem Rn.ob{k:Int}(q:(Zc W'.obj k).isSome=true):(Zc W.obj (τo k)).isSome=true∧C'.ν k=C.ν (τo k):=Ro q fun fs q=>(rn.obj k fs q).elim fun fs0 z=>⟨by rw[z.1];rfl,z.2.1⟩
theorem Rn.ar{k:Int}(q:(Zc W'.arr k).isSome=true):(Zc W.arr (τa k)).isSome=true∧C'.ν k=C.ν (τa k):=Ro q fun fs q=>(rn.arr k fs q).elim fun fs0 z=>⟨by rw[z.1];rfl,z.2.1⟩
theorem Sc{b:Nat}{W:Wd}{p:Wd→Prop}(d:Tz ⟨b,b,[],some W⟩ p):p W:=d.elim fun w d=>sj d.1 ▸ d.2
theorem Za8{b:Nat}{l l':Lc}(d:Z2 C' ⟨b,b,[],some W'⟩ l)(d':Z2 C' ⟨b,b,[],some W'⟩ l')(e:Iu τo τa l=Iu τo τa l'):l=l':=by
 cases l with
 |obj k=>
  cases l' with
  |obj k'=>exact congrArg Lc.obj (rn.io k k' (Sc rn d) (Sc rn d') (Lc.obj.inj e))
  |_=>exact nomatch e
 |arr k=>
  cases l' with
  |arr k'=>exact congrArg Lc.arr (rn.ia k k' (Sc rn d) (Sc rn d') (Lc.arr.inj e))
  |_=>exact nomatch e
 |_=>cases l' <;> first |exact e |exact nomatch e
theorem RepW.renew(sm:Ix C C'){b:Nat}{ρ:Rho}{h:Heap}(tn:Tn2 C C' ⟨b,b,[],some W⟩ ⟨b,b,[],some W'⟩ ρ (fun l=>ρ (Iu τo τa l)))(q:RepW C ⟨b,b,[],some W⟩ ρ h W):RepW C' ⟨b,b,[],some W'⟩ (fun l=>ρ (Iu τo τa l)) h W':=
 ⟨q.main_e fun x x1 x2=>⟨x,by rw[sm.prog,sm.wld,rn.sid];exact x1,by rw[rn.pair];exact RdD.staysQ tn.q x2⟩,
   q.objs_e fun items x1 x2 x3 x4=>⟨items,x1,rn.nobj.symm ▸ x2,Nat.le_trans x3 rn.bnd,fun k fs g=>(rn.obj k fs g).elim fun fs0 z=>z.2.1.symm ▸ x4 _ _ z.1⟩,
   q.arrs_e fun items x1 x2 x3 x4=>⟨items,x1,rn.narr.symm ▸ x2,Nat.le_trans x3 rn.bnd,fun k fs g=>(rn.arr k fs g).elim fun fs0 z=>z.2.1.symm ▸ x4 _ _ z.1⟩,
   fun k fs g=>(rn.obj k fs g).elim fun fs0 z=>q.obj_e z.1 fun kvs x1 x2 x3=>⟨z.2.2.len.symm ▸ x1,kvs,by rw[sm.prog,sm.wld];exact x2,x3.rel z.2.2⟩,
   fun k xs g=>(rn.arr k xs g).elim fun xs0 z=>q.arr_e z.1 fun items x2 x3=>⟨items,x2,Nums.rel z.2.2 x3⟩,
   q.vers_e fun f x1 x2 x3=>⟨f,x1,Vg x2 rn.bnd,fun k v g=>have a:=rn.vers k v g;⟨a.1,a.2.elim fun v0 z=>(x3 _ _ z.1).2.imp fun t z'=>by rw[(rn.ob a.1).2,z.2];exact z'⟩⟩,
   fun k k' g g' e=>rn.io k k' g g' (q.dis _ _ (rn.ob g).1 (rn.ob g').1 (by rw[← (rn.ob g).2,← (rn.ob g').2];exact e)),
   fun k k' g g' e=>rn.ia k k' g g' (q.disA _ _ (rn.ar g).1 (rn.ar g').1 (by rw[← (rn.ar g).2,← (rn.ar g').2];exact e)),rn.sid.symm ▸ q.sid,rn.bd,rn.nobj.symm ▸ q.po,rn.narr.symm ▸ q.pa⟩
end
theorem R.renew{C C':Cx}(sm:Ix C C')(ho:C'.T.old=C.T.old){b:Nat}{W W':Wd}{τo τa:Int→Int}(rn:Rn C C' W W' τo τa){ρ:Rho}{h:Heap}(r:R C ⟨b,b,[],some W⟩ ρ h)(lit:∀n o,C.get ⟨b,b,[],some W⟩ n=some o→Be o=true):
 R C' ⟨b,b,[],some W'⟩ (fun l=>ρ (Iu τo τa l)) h∧Tn2 C C' ⟨b,b,[],some W⟩ ⟨b,b,[],some W'⟩ ρ (fun l=>ρ (Iu τo τa l)):=by
 have hg:∀n,C'.get ⟨b,b,[],some W'⟩ n=C.get ⟨b,b,[],some W⟩ n:=fun n=>congrArg (fun o=>Zj o ⟨b,b,[],some W⟩ n) ho;have lv:∀{l},Z2 C' ⟨b,b,[],some W'⟩ l→Z2 C ⟨b,b,[],some W⟩ (Iu τo τa l):=fun{l} d=>by
  cases l with
  |id n=>exact d.elim fun o d=>⟨o,(hg n).symm.trans d.1,d.2⟩
  |idd n=>exact d.elim fun c d=>d.elim fun vs d=>⟨c,vs,(hg n).symm.trans d⟩
  |obj k=>exact⟨W,rfl,(rn.ob (Sc rn d)).1⟩
  |arr k=>exact⟨W,rfl,(rn.ar (Sc rn d)).1⟩
  |_=>exact⟨W,rfl,trivial⟩
 have yg:∀{l},X6 ⟨b,b,[],some W'⟩ l→X6 ⟨b,b,[],some W⟩ (Iu τo τa l):=fun{l} y=>by cases l <;> exact y
 have tn:Tn2 C C' ⟨b,b,[],some W⟩ ⟨b,b,[],some W'⟩ ρ (fun l=>ρ (Iu τo τa l)):=⟨fun a z=>z.elim fun l z=>⟨Iu τo τa l,lv z.1,yg z.2.1,z.2.2⟩,fun _ d=>d,fun _=>rfl,fun _=>rfl,fun l d=>⟨_,lv d,rfl⟩⟩;exact⟨⟨sm.K.symm ▸ r.fr,fun n o e=>have e:=(hg n).symm.trans e;(r.rep n o e).cx sm tn (lit n o e),fun w e=>sj e ▸ RepW.renew rn sm tn (r.rw W rfl),fun l l' d d' e=>Za8 rn d d' (r.inj _ _ (lv d) (lv d') e),fun l d y=>sm.K.symm ▸ r.far _ (lv d) (yg y),Nat.le_refl _,fun n a e=>r.sta n a (sm.sta ▸ e),sm.K.symm ▸ r.sysK,fun l d=>r.sys _ (lv d)⟩,tn⟩
structure Fit(W:Wd)(pr:D)(c room:Nat)(o1 o2 b1 b2 u1 u2:Int)(ys:List Int):Prop where
 sid:W.sid=2
 pair:W.pair=pr
 ob1:Zc W.obj o1=some [(8,b1),(9,(c:Int)),(10,u1)]
 ob2:Zc W.obj o2=some [(8,b2),(9,(c:Int)),(10,u2)]
 ar1:Zc W.arr b1=some (ys++List.replicate (room - c) 0)
 ar2:Zc W.arr b2=some (ys++List.replicate (room - c) 0)
 ve1:Zc W.vers o1=some u1
 ve2:Zc W.vers o2=some u2
 ne:o1≠o2
 na:b1≠b2
 len:ys.length=c
 pos:∀y∈ys,Ab y=true
 bnd:W.bnd≤1000
 cr:crB c room=true
theorem Zrn{b x y:Bool}(h:bp b x y=true){P:Prop}(f:b=true→x=true→P)(g:b=false→y=true→P):P:=by
 cases b with
 |true=>exact f rfl h
 |false=>exact g rfl h
theorem Dm{c room:Nat}(h:crB c room=true){M:Nat→Nat→Prop}(k1:∀c,c≤8→M c 8)(k2:∀c,c≤4→M c 4)(k3:M 0 0)(k4:M 9 16):M c room:=
 Zrn h (fun e h=>Nat.eq_of_beq_eq_true e ▸ k1 c (Nat.le_of_ble_eq_true h)) fun _ h=>Zrn h (fun e h=>Nat.eq_of_beq_eq_true e ▸ k2 c (Nat.le_of_ble_eq_true h)) fun _ h=>Zrn h (fun e h=>Nat.eq_of_beq_eq_true e ▸ Nat.eq_of_beq_eq_true h ▸ k3) fun _ h=>Nat.eq_of_beq_eq_true (a2 h).1 ▸ Nat.eq_of_beq_eq_true (a2 h).2 ▸ k4
theorem Fe{c room:Nat}(h:crB c room=true):c≤9∧c≤room:=Dm (M:=fun c room=>c≤9∧c≤room) h (fun c h=>⟨Nat.le_succ_of_le h,h⟩) (fun c h=>⟨Nat.le_trans h (by decide),h⟩) (by decide) (by decide)
theorem neB{a b:Int}(h:(!eqB a b)=true):a≠b:=Pf (nb h)
theorem D7{c:Nat}{l:List Int}(h:eqL (l.drop c) (List.replicate (l.length - c) 0)=true):l=l.take c++List.replicate (l.length - c) 0:=by rw[← L1 h,List.take_append_drop]
theorem Zpk{x1 x2 x3:Int×Int}{c:Int}(h1:eqB x1.1 8=true)(h2:eqB x2.1 9=true)(h3:eqB x3.1 10=true)(h4:x2.2=c):[x1,x2,x3]=[(8,x1.2),(9,c),(10,x3.2)]:=by
 rw[← Zu h1,← Zu h2,← Zu h3,← h4]
theorem Zf8{W:Wd}(h:L6 W=some ()){P:Prop}(k:∀c room p1 p2 a1 a2 v1 v2 ys,Fit W (.tuple [.int p1,.int p2]) c room p1 p2 a1 a2 v1 v2 ys→P):P:=by
 suffices ∀{d:D},W.pair=d→(dT d fun l=>l2 l fun p1 p2=>dZ p1 fun p1=>dZ p2 fun p2=>ob (Zc W.obj p1) fun f=>ob (Zc W.obj p2) fun g=>l3 f fun x1 x2 x3=>l3 g fun y1 y2 y3=>iN x2.2 fun c=>ob (Zc W.arr x1.2) fun a=>ob (Zc W.arr y1.2) fun b=>ob (Zc W.vers p1) fun u1=>ob (Zc W.vers p2) fun u2=>
  gd (Nat.beq W.sid 2&&(Nat.ble W.bnd 1000&&(crB c a.length&&(eqB x1.1 8&&(eqB x2.1 9&&(eqB x3.1 10&&(eqB y1.1 8&&(eqB y2.1 9&&(eqB y3.1 10&&(eqB y2.2 (.ofNat c)&&(eqB u1 x3.2&&(eqB u2 y3.2&&(!eqB p1 p2&&(!eqB x1.2 y1.2&&(eqL b a&&(eqL (a.drop c) (List.replicate (a.length - c) 0)&&(a.take c).all Ab)))))))))))))))) (some ()))=some ()→P from this rfl h
 intro d hp h;refine Mf (M:=fun d=>W.pair=d→P) h (fun l h=>Zqk (M:=fun l=>W.pair= .tuple l→P) h fun p1 p2 h=>Vf (M:=fun p1=>W.pair= .tuple [p1,p2]→P) h fun p1 h=>Vf (M:=fun p2=>W.pair= .tuple [.int p1,p2]→P) h fun p2 h hp=> ?_) hp;refine Za h fun f hf h=>Za h fun g hg h=>Yak (M:=fun f=>Zc W.obj p1=some f→P) h (fun x1 x2 x3 h hf=>Yak (M:=fun g=>Zc W.obj p2=some g→P) h (fun y1 y2 y3 h hg=> ?_) hg) hf
 have key:∀{i:Int},x2.2=i→(iN i fun c=>ob (Zc W.arr x1.2) fun a=>ob (Zc W.arr y1.2) fun b=>ob (Zc W.vers p1) fun u1=>ob (Zc W.vers p2) fun u2=>
  gd (Nat.beq W.sid 2&&(Nat.ble W.bnd 1000&&(crB c a.length&&(eqB x1.1 8&&(eqB x2.1 9&&(eqB x3.1 10&&(eqB y1.1 8&&(eqB y2.1 9&&(eqB y3.1 10&&(eqB y2.2 (.ofNat c)&&(eqB u1 x3.2&&(eqB u2 y3.2&&(!eqB p1 p2&&(!eqB x1.2 y1.2&&(eqL b a&&(eqL (a.drop c) (List.replicate (a.length - c) 0)&&(a.take c).all Ab)))))))))))))))) (some ()))=some ()→P:=fun{i} hc h=>
  Zfx (M:=fun i=>x2.2=i→P) h (fun c h hc=>Za h fun a ha h=>Za h fun b hb h=>Za h fun u1 h5 h=>Za h fun u2 h6 h=>Zl h fun h _=>T2 h fun e1 e2 e3 e4 h=>T2 h fun e5 e6 e7 e8 h=>T2 h fun e9 e10 e11 e12 h=>T2 h fun e13 e14 e15 e16 e17=>by
   have hl:=D7 e16
   exact k c a.length p1 p2 x1.2 y1.2 x3.2 y3.2 (a.take c) ⟨Nat.eq_of_beq_eq_true e1,hp,hf.trans (congrArg some (Zpk e4 e5 e6 hc)),hg.trans (congrArg some (Zpk e7 e8 e9 (Zu e10))),ha.trans (congrArg some hl),hb.trans (congrArg some ((L1 e15).trans hl)),h5.trans (congrArg some (Zu e11)),h6.trans (congrArg some (Zu e12)),neB e13,neB e14,
    List.length_take.trans (Nat.min_eq_left (Fe e3).2),fun y hy=>List.all_eq_true.mp e17 y hy,Nat.le_of_ble_eq_true e2,e3⟩) hc
 exact key rfl h
theorem Fit.swap{W:Wd}{pr:D}{c room:Nat}{o1 o2 b1 b2 u1 u2:Int}{ys:List Int}(F:Fit W pr c room o1 o2 b1 b2 u1 u2 ys):Fit W pr c room o2 o1 b2 b1 u2 u1 ys:=
 ⟨F.sid,F.pair,F.ob2,F.ob1,F.ar2,F.ar1,F.ve2,F.ve1,Ne.symm F.ne,Ne.symm F.na,F.len,F.pos,F.bnd,F.cr⟩
noncomputable def Zr7 (ν:Int→Int) (W:Wd) (o1 o2 b1 b2 u1 u2:Int) (n:Nat):Int:=(([0,ν o1,ν o2,ν b1,ν b2,ν W.nobj,ν W.narr,ν u1,ν u2]:List Int)[n]?).getD 0
theorem Znx{val:Int→Int}(h:∀n:Nat,0≤val (19 + n:Nat)){y:Int}(p:Ab y=true):1≤vC val y:=by
 have h1:=(W.Z.ltB_iff _ _).mp (a2 p).1;have h2:=(W.Z.ltB_iff _ _).mp (a2 p).2;refine(Int.eq_ofNat_of_zero_le (a:=hiC y) (Int.le_trans (by decide) (Int.le_of_lt h2))).elim fun n hn=>(Nat.exists_eq_add_of_le (Nat.le_of_lt (Int.ofNat_lt.mp (hn ▸ h2:((19:Nat):Int) < (n:Int))))).elim fun m hm=> ?_;have z:=h m;unfold vC;rw[← hm,← hn] at z;exact Int.le_trans h1 (Int.le_add_of_nonneg_right z)
@[elab_as_elim] theorem Xr {β:Type} {a b k:Int} {x y z:β} (h:Zc [(a,x),(b,y)] k=some z) {M:Int→β→Prop} (f:M a x) (g:M b y):M k z:=
  Vc (b:=eqB a k) (x:=some x) (y:=Zc [(b,y)] k) h (fun e h=>Zu e ▸ sj h ▸ f) fun _ h=>Vc (b:=eqB b k) (x:=some y) (y:=none) h (fun e h=>Zu e ▸ sj h ▸ g) fun _ h=>nn h
theorem Ca{β:Type}(a b:Int)(x y:β):(Zc [(a,x),(b,y)] a).isSome=true:=by
 show(bp (eqB a a) (some x) _).isSome=true;rw[Sv];rfl
theorem Cb{β:Type}(a b:Int)(x y:β):(Zc [(a,x),(b,y)] b).isSome=true:=by
 show(bp (eqB a b) (some x) (bp (eqB b b) (some y) none)).isSome=true;rw[Sv b];cases eqB a b <;> rfl
noncomputable def Tj (a b x y:Int) (k:Int):Int:=bp (eqB k a) x (bp (eqB k b) y k)
theorem Tl(a b x y:Int):Tj a b x y a=x:=by unfold Tj;rw[Sv];rfl
theorem Tm{a b:Int}(h:eqB b a=false)(x y:Int):Tj a b x y b=y:=by unfold Tj;rw[h,Sv];rfl
theorem h21:eqB (uk 2) (uk 1)=false:=by kernel_rfl
theorem h43:eqB (uk 4) (uk 3)=false:=by kernel_rfl
theorem Bm{ν ν':Int→Int}{ys:List Int}(h0:ν 0=0)(h0':ν' 0=0)(room:Nat)(h:∀i (y:Int),ys[i]? =some y→ν' (uk (30 + i) + 1)=ν y):(Ek ys.length room).map ν'=(ys++List.replicate (room - ys.length) 0).map ν:=by
 unfold Ek xsC;rw[List.map_append,List.map_append,List.map_replicate,List.map_replicate,h0,h0'];refine congrArg (· ++_) (List.ext_getElem? fun i=> ?_);rw[List.getElem?_map,List.getElem?_map,List.getElem?_map];rcases Nat.lt_or_ge i ys.length with hi |hi
 ·rw[List.getElem?_range hi,List.getElem?_eq_getElem hi]
  exact congrArg some (h i _ (List.getElem?_eq_getElem hi))
 ·rw[List.getElem?_eq_none (by rw[List.length_range];exact hi),List.getElem?_eq_none (l:=ys) hi]
  rfl
noncomputable def Tu (val:Int→Int) (W:Wd) (o1 o2 b1 b2 u1 u2:Int) (ys:List Int) (q:Int):Int→Int:=nv (Zr7 (vC val) W o1 o2 b1 b2 u1 u2) (ys.map fun y=>vC val y - 1) q
theorem Pa{val:Int→Int}(hv:∀n:Nat,0≤val (19 + n:Nat)){W:Wd}{o1 o2 b1 b2 u1 u2:Int}{ys:List Int}(hp:∀y∈ys,Ab y=true){q:Int}(hq:0≤q):QvOk (Tu val W o1 o2 b1 b2 u1 u2 ys q) q:=
 ⟨rfl,hq,fun n h=>Yap _ _ _ h,fun n=>by rw[Tu,Zqo];exact Sx (fun y h=>(List.mem_map.mp h).elim fun x z=>z.2 ▸ Int.sub_nonneg_of_le (Znx hv (hp x z.1))) n⟩
theorem Dh{val:Int→Int}{q:Int}(H:QvOk val q)(n:Nat):0≤val (19 + n:Nat):=by
 rcases Nat.lt_or_ge n 11 with h |h
 ·rw[H.at_ n h];exact Sx (Zo1 H.nn) n
 ·exact(Nat.exists_eq_add_of_le h).elim fun m e=>by rw[e,← Nat.add_assoc];exact H.el m
section
variable{val:Int→Int}{W:Wd}{o1 o2 b1 b2 u1 u2:Int}{ys:List Int}{q:Int}
theorem Lm(n:Nat)(h:0 < n)(h2:n < 19):vC (Tu val W o1 o2 b1 b2 u1 u2 ys q) (uk n)=Zr7 (vC val) W o1 o2 b1 b2 u1 u2 n:=(N5 _ _).trans (Yaq _ _ _ h h2)
theorem Di(v0:val 0=0)(room:Nat):(Ek ys.length room).map (vC (Tu val W o1 o2 b1 b2 u1 u2 ys q))=(ys++List.replicate (room - ys.length) 0).map (vC val):=
 Bm (Yu (m:=0) v0 (Nat.zero_le _)) (Yu (m:=0) rfl (Nat.zero_le _)) room fun i y hy=>(Qz _ _).trans (by rw[Tu,Zqo,List.getElem?_map,hy];exact Int.sub_add_cancel ..)
theorem Fit.rn{w:World}{fx fx':List Fact}{old:Nat→Option O}{slack:Nat}(v0:val 0=0){pr:D}{c room:Nat}(F:Fit W pr c room o1 o2 b1 b2 u1 u2 ys){pr':D}
 (hp:mD (vC (Tu val W o1 o2 b1 b2 u1 u2 ys q)) pr'=mD (vC val) pr):
 Rn (CK w fx old val slack) (CK w fx' old (Tu val W o1 o2 b1 b2 u1 u2 ys q) (slack + 1000)) W (wC pr' c room) (Tj (uk 1) (uk 2) o1 o2) (Tj (uk 3) (uk 4) b1 b2):=by
 have hc:c≤100000:=Nat.le_trans (Fe F.cr).1 (by decide);have T:=fun n (h:0 < n) (h2:n < 19)=>Lm (val:=val) (W:=W) (o1:=o1) (o2:=o2) (b1:=b1) (b2:=b2) (u1:=u1) (u2:=u2) (ys:=ys) (q:=q) n h h2;have C0:vC (Tu val W o1 o2 b1 b2 u1 u2 ys q) (c:Int)=vC val (c:Int):=(Yu rfl hc).trans (Yu v0 hc).symm;have row:(Ek c room).map (vC (Tu val W o1 o2 b1 b2 u1 u2 ys q))=(ys++List.replicate (room - c) 0).map (vC val):=F.len ▸ Di v0 room;refine⟨F.sid.symm,F.pair.symm ▸ hp,T 5 (by decide) (by decide),T 6 (by decide) (by decide),?_,Nat.zero_le _,fun k fs g=> ?_,fun k xs g=> ?_,fun k v g=> ?_,fun k k' g g' e=> ?_,fun k k' g g' e=> ?_⟩
 ·exact Nat.le_trans (Nat.add_le_add_right F.bnd slack) (Nat.le_of_eq ((Nat.add_comm _ _).trans (Nat.zero_add _).symm))
 ·refine Xr (M:=fun k fs=>∃fs0,Zc W.obj (Tj (uk 1) (uk 2) o1 o2 k)=some fs0∧vC (Tu val W o1 o2 b1 b2 u1 u2 ys q) k=vC val (Tj (uk 1) (uk 2) o1 o2 k)∧FldRel (vC val) (vC (Tu val W o1 o2 b1 b2 u1 u2 ys q)) fs fs0) g ?_ ?_
  ·rw[Tl];exact⟨_,F.ob1,T 1 (by decide) (by decide),b1,_,rfl,T 3 (by decide) (by decide),_,_,rfl,C0,u1,_,rfl,T 7 (by decide) (by decide),rfl⟩
  ·rw[Tm h21];exact⟨_,F.ob2,T 2 (by decide) (by decide),b2,_,rfl,T 4 (by decide) (by decide),_,_,rfl,C0,u2,_,rfl,T 8 (by decide) (by decide),rfl⟩
 ·refine Xr (M:=fun k xs=>∃xs0,Zc W.arr (Tj (uk 3) (uk 4) b1 b2 k)=some xs0∧vC (Tu val W o1 o2 b1 b2 u1 u2 ys q) k=vC val (Tj (uk 3) (uk 4) b1 b2 k)∧xs.map (vC (Tu val W o1 o2 b1 b2 u1 u2 ys q))=xs0.map (vC val)) g ?_ ?_
  ·rw[Tl];exact⟨_,F.ar1,T 3 (by decide) (by decide),row⟩
  ·rw[Tm h43];exact⟨_,F.ar2,T 4 (by decide) (by decide),row⟩
 ·refine Xr (M:=fun k v=>(Zc (wC pr' c room).obj k).isSome∧∃v0,Zc W.vers (Tj (uk 1) (uk 2) o1 o2 k)=some v0∧vC (Tu val W o1 o2 b1 b2 u1 u2 ys q) v=vC val v0) g ?_ ?_
  ·rw[Tl];exact⟨Ca ..,_,F.ve1,T 7 (by decide) (by decide)⟩
  ·rw[Tm h21];exact⟨Cb ..,_,F.ve2,T 8 (by decide) (by decide)⟩
 ·exact Ro g fun x g=>Ro g' fun x' g'=>Xr (M:=fun k _=>Tj (uk 1) (uk 2) o1 o2 k=Tj (uk 1) (uk 2) o1 o2 k'→k=k') g
   (Xr (M:=fun k' _=>Tj (uk 1) (uk 2) o1 o2 (uk 1)=Tj (uk 1) (uk 2) o1 o2 k'→uk 1=k') g' (fun _=>rfl) (by rw[Tl,Tm h21];exact fun e=>(F.ne e).elim))
   (Xr (M:=fun k' _=>Tj (uk 1) (uk 2) o1 o2 (uk 2)=Tj (uk 1) (uk 2) o1 o2 k'→uk 2=k') g' (by rw[Tl,Tm h21];exact fun e=>(F.ne e.symm).elim) fun _=>rfl) e
 ·exact Ro g fun x g=>Ro g' fun x' g'=>Xr (M:=fun k _=>Tj (uk 3) (uk 4) b1 b2 k=Tj (uk 3) (uk 4) b1 b2 k'→k=k') g
   (Xr (M:=fun k' _=>Tj (uk 3) (uk 4) b1 b2 (uk 3)=Tj (uk 3) (uk 4) b1 b2 k'→uk 3=k') g' (fun _=>rfl) (by rw[Tl,Tm h43];exact fun e=>(F.na e).elim))
   (Xr (M:=fun k' _=>Tj (uk 3) (uk 4) b1 b2 (uk 4)=Tj (uk 3) (uk 4) b1 b2 k'→uk 4=k') g' (by rw[Tl,Tm h43];exact fun e=>(F.na e.symm).elim) fun _=>rfl) e
end
end Mine
namespace Mine
open PySem PySem.W
theorem Zn3(old:Nat→Option O):Qj old 0 0=true:=by kernel_rfl
theorem Znh(old:Nat→Option O):Q9 old 0 0 9=true:=by kernel_rfl
theorem Zn4(old:Nat→Option O):Qj old 0 4=true:=by kernel_rfl
theorem Zni(old:Nat→Option O):Q9 old 0 4 9=true:=by kernel_rfl
theorem Zn6(old:Nat→Option O):Qj old 1 4=true:=by kernel_rfl
theorem Zfb:Z8 1 4:=⟨fun _ _ _ _ _=>by kernel_rfl,fun _ _ _ _=>by kernel_rfl,fun _ _ _ _=>by kernel_rfl,fun _ _ _ _ _=>by kernel_rfl,fun _ _ _ _ _=>by kernel_rfl,fun _ _ _ _ _=>by kernel_rfl⟩
theorem Znk(bs:List Bool)(old:Nat→Option O):Mc bs old 1 4=true:=by kernel_rfl
theorem Zn8(old:Nat→Option O):Qj old 2 4=true:=by kernel_rfl
theorem Zfd:Z8 2 4:=⟨fun _ _ _ _ _=>by kernel_rfl,fun _ _ _ _=>by kernel_rfl,fun _ _ _ _=>by kernel_rfl,fun _ _ _ _ _=>by kernel_rfl,fun _ _ _ _ _=>by kernel_rfl,fun _ _ _ _ _=>by kernel_rfl⟩
theorem Znm(bs:List Bool)(old:Nat→Option O):Mc bs old 2 4=true:=by kernel_rfl
theorem Zna(old:Nat→Option O):Qj old 3 4=true:=by kernel_rfl
theorem Zff:Z8 3 4:=⟨fun _ _ _ _ _=>by kernel_rfl,fun _ _ _ _=>by kernel_rfl,fun _ _ _ _=>by kernel_rfl,fun _ _ _ _ _=>by kernel_rfl,fun _ _ _ _ _=>by kernel_rfl,fun _ _ _ _ _=>by kernel_rfl⟩
theorem Zno(bs:List Bool)(old:Nat→Option O):Mc bs old 3 4=true:=by kernel_rfl
theorem Znc(old:Nat→Option O):Qj old 4 4=true:=by kernel_rfl
theorem Zfh:Z8 4 4:=⟨fun _ _ _ _ _=>by kernel_rfl,fun _ _ _ _=>by kernel_rfl,fun _ _ _ _=>by kernel_rfl,fun _ _ _ _ _=>by kernel_rfl,fun _ _ _ _ _=>by kernel_rfl,fun _ _ _ _ _=>by kernel_rfl⟩
theorem Znq(bs:List Bool)(old:Nat→Option O):Mc bs old 4 4=true:=by kernel_rfl
theorem Zn5(old:Nat→Option O):Qj old 0 8=true:=by kernel_rfl
theorem Znj(old:Nat→Option O):Q9 old 0 8 9=true:=by kernel_rfl
theorem Zn7(old:Nat→Option O):Qj old 1 8=true:=by kernel_rfl
theorem Zfc:Z8 1 8:=⟨fun _ _ _ _ _=>by kernel_rfl,fun _ _ _ _=>by kernel_rfl,fun _ _ _ _=>by kernel_rfl,fun _ _ _ _ _=>by kernel_rfl,fun _ _ _ _ _=>by kernel_rfl,fun _ _ _ _ _=>by kernel_rfl⟩
theorem Znl(bs:List Bool)(old:Nat→Option O):Mc bs old 1 8=true:=by kernel_rfl
theorem Zn9(old:Nat→Option O):Qj old 2 8=true:=by kernel_rfl
theorem Zfe:Z8 2 8:=⟨fun _ _ _ _ _=>by kernel_rfl,fun _ _ _ _=>by kernel_rfl,fun _ _ _ _=>by kernel_rfl,fun _ _ _ _ _=>by kernel_rfl,fun _ _ _ _ _=>by kernel_rfl,fun _ _ _ _ _=>by kernel_rfl⟩
theorem Znn(bs:List Bool)(old:Nat→Option O):Mc bs old 2 8=true:=by kernel_rfl
theorem pb8(old:Nat→Option O):Yha old=true:=by kernel_rfl
theorem pb9(old:Nat→Option O):Yhb old=true:=by kernel_rfl
theorem Znb(old:Nat→Option O):Qj old 3 8=true:=by kernel_rfl
theorem Zfg:Z8 3 8:=⟨fun _ _ _ _ _=>by kernel_rfl,fun _ _ _ _=>by kernel_rfl,fun _ _ _ _=>by kernel_rfl,fun _ _ _ _ _=>by kernel_rfl,fun _ _ _ _ _=>by kernel_rfl,fun _ _ _ _ _=>by kernel_rfl⟩
theorem Znp(bs:List Bool)(old:Nat→Option O):Mc bs old 3 8=true:=by kernel_rfl
theorem Znd(old:Nat→Option O):Qj old 4 8=true:=by kernel_rfl
theorem Zfi:Z8 4 8:=⟨fun _ _ _ _ _=>by kernel_rfl,fun _ _ _ _=>by kernel_rfl,fun _ _ _ _=>by kernel_rfl,fun _ _ _ _ _=>by kernel_rfl,fun _ _ _ _ _=>by kernel_rfl,fun _ _ _ _ _=>by kernel_rfl⟩
theorem Znr(bs:List Bool)(old:Nat→Option O):Mc bs old 4 8=true:=by kernel_rfl
theorem Zne(old:Nat→Option O):Qj old 5 8=true:=by kernel_rfl
theorem Zfj:Z8 5 8:=⟨fun _ _ _ _ _=>by kernel_rfl,fun _ _ _ _=>by kernel_rfl,fun _ _ _ _=>by kernel_rfl,fun _ _ _ _ _=>by kernel_rfl,fun _ _ _ _ _=>by kernel_rfl,fun _ _ _ _ _=>by kernel_rfl⟩
theorem Zns(bs:List Bool)(old:Nat→Option O):Mc bs old 5 8=true:=by kernel_rfl
theorem Znf(old:Nat→Option O):Qj old 6 8=true:=by kernel_rfl
theorem Zfk:Z8 6 8:=⟨fun _ _ _ _ _=>by kernel_rfl,fun _ _ _ _=>by kernel_rfl,fun _ _ _ _=>by kernel_rfl,fun _ _ _ _ _=>by kernel_rfl,fun _ _ _ _ _=>by kernel_rfl,fun _ _ _ _ _=>by kernel_rfl⟩
theorem Znt(bs:List Bool)(old:Nat→Option O):Mc bs old 6 8=true:=by kernel_rfl
theorem Zng(old:Nat→Option O):Qj old 7 8=true:=by kernel_rfl
theorem Zfl:Z8 7 8:=⟨fun _ _ _ _ _=>by kernel_rfl,fun _ _ _ _=>by kernel_rfl,fun _ _ _ _=>by kernel_rfl,fun _ _ _ _ _=>by kernel_rfl,fun _ _ _ _ _=>by kernel_rfl,fun _ _ _ _ _=>by kernel_rfl⟩
theorem Znu(bs:List Bool)(old:Nat→Option O):Mc bs old 7 8=true:=by kernel_rfl
end Mine
namespace Mine
open PySem PySem.W PySem.Calls PyProof.Rows
set_option genInjectivity false
def Zpz(p:Nat→Prop):Nat→Prop
 |0=>True
 |n + 1=>Zpz p n∧p n
theorem Xp{p:Nat→Prop}:∀{n i:Nat},Zpz p n→i < n→p i
 |0,_,_,h=>absurd h (Nat.not_lt_zero _)
 |n + 1,i,e,h=>(Nat.lt_or_eq_of_le (Nat.le_of_lt_succ h)).elim (Xp e.1) fun h=>h ▸ e.2
structure Iw(c room:Nat):Prop where
 ops:∀old,Qj old c room=true
 z:c=0→∀old,Q9 old 0 room 9=true
 fo:0 < c→Z8 c room
 pf:0 < c→∀bs old,Mc bs old c room=true
theorem pb0{room:Nat}(h:∀old,Qj old 0 room=true)(k:∀old,Q9 old 0 room 9=true):Iw 0 room:=⟨h,fun _=>k,fun h=>absurd h (Nat.lt_irrefl 0),fun h=>absurd h (Nat.lt_irrefl 0)⟩
theorem pbS{c room:Nat}(h:∀old,Qj old (c + 1) room=true)(fo:Z8 (c + 1) room)(pf:∀bs old,Mc bs old (c + 1) room=true):Iw (c + 1) room:=⟨h,nofun,fun _=>fo,fun _=>pf⟩
theorem Yim:Zpz (fun c=>Iw c 8) 8:=⟨⟨⟨⟨⟨⟨⟨⟨trivial,pb0 Zn5 Znj⟩,pbS Zn7 Zfc Znl⟩,pbS Zn9 Zfe Znn⟩,pbS Znb Zfg Znp⟩,pbS Znd Zfi Znr⟩,pbS Zne Zfj Zns⟩,pbS Znf Zfk Znt⟩,pbS Zng Zfl Znu⟩
theorem Yil:Zpz (fun c=>Iw c 4) 5:=⟨⟨⟨⟨⟨trivial,pb0 Zn4 Zni⟩,pbS Zn6 Zfb Znk⟩,pbS Zn8 Zfd Znm⟩,pbS Zna Zff Zno⟩,pbS Znc Zfh Znq⟩
theorem Zy3{c room:Nat}(h:crB c room=true)(hc:c≤7):Iw c room:=Dm (M:=fun c room=>c≤7→Iw c room) h (fun c _ h=>Xp (p:=fun c=>Iw c 8) Yim (Nat.lt_succ_of_le h)) (fun c h _=>Xp (p:=fun c=>Iw c 4) Yil (Nat.lt_succ_of_le h)) (fun _=>pb0 Zn3 Znh) (fun h=>absurd h (by decide)) hc
theorem SoundCF.mono{C:Cx}{d d':Nat}{cf:Nat→List V→St→Res}(h:SoundCF C d cf)(hd:d≤d'):SoundCF C d' cf:=
 fun f vs σ v σ' e A s ρ xs B rm r vr q=>h f vs σ v σ' e xs B (rm.mono hd) r vr q
theorem R2{val:Int→Int}:∀(n k:Nat),Hol (vC val) (eqF ((List.range' k n).map fun(i:Nat)=>decide (val i=val ((25:Nat):Int))) k)
 |0,k=>Tv
 |n + 1,k=>by
  rw[List.range'_succ,List.map_cons];refine Yj ?_ (R2 n (k + 1));show(vC val (uk k + 1)=vC val (uk 25 + 1)↔decide (val k=val ((25:Nat):Int))=true);rw[Qz,Qz,decide_eq_true_eq];first |exact Int.add_left_inj 1 |exact Int.add_right_inj 1 |omega
structure Zdn(val:Int→Int)(old:Nat→Option O)(sw c room:Nat)(fx:List Fact)(cf:Nat→List V→St→Res):Prop where
 hold:Hol (vC val) fx
 snd:∀{C:Cx} {mg mb:Str→Option Value},Vr C mg mb→C.T=Tk fx old→(∀f F,Wn f=some F→E2 C f F)→Ma old→SoundCF C 32 cf
 ev:Ml (kSs (Tk fx old) cf 2 [Qt] (loC (uk 20)) (sC (prC sw) c room))=some ()
def Ts(val:Int→Int)(old:Nat→Option O)(sw c room:Nat):Prop:=∃fx cf,Zdn val old sw c room fx cf
theorem isU{x:Option Unit}(h:x.isSome=true):x=some ():=Ro h fun _ h=>h
theorem N4{f:Nat→Wz}(h:Zaf f=true){sw:Nat}(hs:sw < 2):Ml (f sw)=some ():=by
 cases sw with
 |zero=>exact isU (a2 h).1
 |succ n=>
  rw[show n=0 from Nat.lt_one_iff.mp (Nat.succ_lt_succ_iff.mp hs)];exact isU (a2 h).2
theorem Ob{val:Int→Int}{old:Nat→Option O}{c room sw:Nat}{fx:List Fact}(h1:Hol (vC val) fx)(h2:Ml (M0 fx old sw c room)=some ()):Ts val old sw c room:=
 ⟨fx,U2 (Tk fx old) Wn 12,h1,fun X hT hf S=>hT ▸ (Xn X hT hf S 12).mono (by decide),h2⟩
section
variable{val:Int→Int}{q:Int}(H:QvOk val q)
include H
theorem QvOk.swF{sw:Nat}(hsw:(qv q 3).fmod ((2:Nat):Int)=(sw:Int)):sw < 2∧(Fact.ar 1 (Mine.uk 22) 2 (sw:Nat)).Holds (vC val):=
 have h2:sw < 2:=Int.ofNat_lt.mp (hsw ▸ (X9 (qv q 3) (m:=2) (by decide)).2)
 ⟨h2,H.mod (a:=3) (m:=2) (i:=(sw:Int)) ((Yu H.v0 (Nat.le_trans (Nat.le_of_lt h2) (by decide))).trans hsw.symm)⟩
theorem QvOk.opU:(Fact.ar 1 (Mine.uk 20) 10 (Mine.uk 19)).Holds (vC val):=H.mod (a:=1) (m:=10) (i:=Mine.uk 19) (H.uk 0)
theorem Zzp(old:Nat→Option O){sw:Nat}(hsw:(qv q 3).fmod ((2:Nat):Int)=(sw:Int)):Ts val old sw 9 16:=have s:=H.swF hsw
 H.modN (m:=3) 2 (by decide) (by decide) (by decide) fun i i1 _ i2=>Ob (fx:=fx9 i sw) (Yj H.opU (Yj s.2 (Yj i2 H.fxQ))) (N4 (T3 (pb9 old) i1) s.1)
theorem Zzo(old:Nat→Option O){sw:Nat}(hsw:(qv q 3).fmod ((2:Nat):Int)=(sw:Int)):Ts val old sw 8 8:=have s:=H.swF hsw
 have z:∀b,(vC val (uk 19)=vC val 0↔b=true)→(Zaf fun sw=>M0 (fx8 b sw) old sw 8 8)=true→Ts val old sw 8 8:=fun b h k=>Ob (fx:=fx8 b sw) (Yj H.opU (Yj (show _↔_ from h) (Yj s.2 H.fxQ))) (N4 k s.1)
 (Decidable.em (vC val (uk 19)=vC val 0)).elim (fun h=>z true ⟨fun _=>rfl,fun _=>h⟩ (a2 (pb8 old)).2) fun h=>z false ⟨fun e=>absurd e h,fun e=>nf e⟩ (a2 (pb8 old)).1
theorem Zzq(old:Nat→Option O){c room:Nat}(P:Iw c room)(h1:0 < c)(h7:c≤7){sw:Nat}(hsw:(qv q 3).fmod ((2:Nat):Int)=(sw:Int))(op2:(Fact.ar 1 (uk 20) 10 9).Holds (vC val)):Ts val old sw c room:=have s:=H.swF hsw
 H.modN (m:=c) 2 (by decide) h1 (Nat.le_trans h7 (by decide)) fun i i1 _ i2=>by
 have he:=R2 (val:=val) c 30;have hl:((List.range' 30 c).map fun(i:Nat)=>decide (val i=val ((25:Nat):Int))).length=c:=by rw[List.length_map,List.length_range']
 revert he hl;generalize ((List.range' 30 c).map fun(i:Nat)=>decide (val i=val ((25:Nat):Int)))=bs
 exact fun he hl=>⟨fxF c i sw bs,C5 (g88 sw c room i) (Tk (fxF c i sw bs) old) Wn 12,Yj op2 (Yj s.2 (Yj i2 (Cg H.fxQ (Cg (Zfv fun k _=>show vC val (uk (30 + k) + 1)=vC val 0↔false=true by
  rw[Qz,show vC val 0=0 from Yu (m:=0) H.v0 (Nat.zero_le _)]
  exact⟨fun z=>absurd (Int.le_of_eq z) (Int.not_le.mpr (Int.lt_add_one_of_le (H.el k))),fun z=>nf z⟩) he)))),
  fun X hT hf S=>hT ▸ Sm X hT hf S (g:=g88 sw c room i) (fun args σ v σ' e=>Zse (M:=fun args σ v σ'=>U2 _ Wn 5 88 args σ=some (v,σ')) e (hT ▸ L9 (P.fo h1) i1 hl old (prC sw) sw)) 12,N4 (T3 (P.pf h1 bs old) i1) s.1⟩
theorem Zpm(old:Nat→Option O){c room op:Nat}(h7:c≤7)(all:Q9 old c room op=true){sw:Nat}(hsw:(qv q 3).fmod ((2:Nat):Int)=(sw:Int))(op2:(Fact.ar 1 (uk 20) 10 (op:Nat)).Holds (vC val)):Ts val old sw c room:=have s:=H.swF hsw
 (H.cover h7 op).elim fun Ψ m=>Ob (fx:=Ψ++fxO op sw) (Cg m.2 (Yj op2 (Yj s.2 H.fxQ))) (N4 (List.all_eq_true.mp all Ψ m.1) s.1)
theorem Zae(old:Nat→Option O){c room:Nat}(hcr:crB c room=true){sw:Nat}(hsw:(qv q 3).fmod ((2:Nat):Int)=(sw:Int)):Ts val old sw c room:=by
 have small:c≤7→Ts val old sw c room:=fun h7=>H.modN (m:=10) 1 (by decide) (by decide) (by decide) fun op op1 _ op2=>have P:=Zy3 hcr h7
  (Nat.lt_or_eq_of_le (Nat.le_of_lt_succ op1)).elim (fun h=>Zpm H old h7 (T3 (P.ops old) h) hsw op2) fun h=>by
    rw[h] at op2;rcases Nat.eq_zero_or_pos c with z |z
    ·rw[z];rw[z] at P hcr;exact Zpm H old (Nat.zero_le _) (P.z rfl old) hsw op2
    ·exact Zzq H old P z h7 hsw op2
 exact Dm (M:=fun c room=>(c≤7→Ts val old sw c room)→Ts val old sw c room) hcr (fun c h k=>(Nat.lt_or_eq_of_le h).elim (fun h=>k (Nat.le_of_lt_succ h)) fun h=>h ▸ Zzo H old hsw) (fun c h k=>k (Nat.le_trans h (by decide))) (fun k=>k (Nat.zero_le _)) (fun _=>Zzp H old hsw) small
end
end Mine
namespace Mine
open PySem PySem.W
noncomputable abbrev RWx:OpenLaw:=PySem.Challenge.rw_xm0272_01
theorem Um{a b:Bool}(x:a=true)(y:b=true):(a&&b)=true:=by rw[x,y];rfl
noncomputable def Kf:TablesWhole.Alg Bool:=⟨fun sc n _=>PySem.W.Fast.tw15985051520779696433 sc n,fun _ _ _ ok=>ok,fun _=>true,true,false,fun a b=>a&&b⟩
theorem Kg:TablesWhole.holds=Kf:=by
 unfold TablesWhole.holds Kf;rw[PySem.W.Fast.te15985051520779696433]
theorem Zar(top:Scope)(cx:TablesWhole.Ctx)(sc:Scope):TablesWhole.wSs TablesWhole.holds top cx sc []=true:=by kernel_rfl
theorem N9(top:Scope)(cx:TablesWhole.Ctx)(sc:Scope)(s:Stmt)(r:List Stmt):TablesWhole.wSs TablesWhole.holds top cx sc (s::r)=(TablesWhole.wS TablesWhole.holds top cx sc s&&TablesWhole.wSs TablesWhole.holds top cx sc r):=by kernel_rfl
theorem Od(top:Scope)(cx:TablesWhole.Ctx)(sc:Scope)(b:List Stmt)(a:List Stmt):TablesWhole.wSs TablesWhole.holds top cx sc (a++b)=(TablesWhole.wSs TablesWhole.holds top cx sc a&&TablesWhole.wSs TablesWhole.holds top cx sc b):=by
 induction a with
 |nil=>rw[Zar];rfl
 |cons s a ih=>
  rw[List.cons_append,N9,N9,ih];exact(Bool.and_assoc ..).symm
noncomputable def cxT:TablesWhole.Ctx:=⟨PW.main.scope,[],[],[],none⟩
theorem Zzn:TablesWhole.wSs TablesWhole.gather PW.main.scope cxT PW.main.scope PW.main.body=[]:=by
 rw[PySem.W.Fast.te16421684217811934046,PySem.W.Fast.te12652042256554560961]
 kernel_rfl
theorem Zpn:TablesWhole.noTwice PW.main.scope=true:=by
 rw[PySem.W.Fast.te8331962902438777018]
 kernel_rfl
noncomputable abbrev HS (a n:Nat):Prop:=TablesWhole.wSs TablesWhole.holds PW.main.scope cxT PW.main.scope (sl a n)=true
theorem Hi{a n:Nat}(h:PySem.W.Fast.tw16421684217811934046 Kf PW.main.scope cxT PW.main.scope (sl a n)=true):HS a n:=by
 unfold HS;rw[PySem.W.Fast.te16421684217811934046,Kg];exact h
theorem hs0:HS 0 120:=Hi (by kernel_rfl)
theorem hs1:HS 120 50:=Hi (by kernel_rfl)
theorem hs2:HS 170 30:=Hi (by kernel_rfl)
theorem hs3:HS 200 25:=Hi (by kernel_rfl)
theorem Zaq(m:Module)(h1:TablesWhole.noTwice m.scope=true)(h2:TablesWhole.wSs TablesWhole.gather m.scope ⟨m.scope,[],[],[],none⟩ m.scope m.body=[])(h3:TablesWhole.wSs TablesWhole.holds m.scope ⟨m.scope,[],[],[],none⟩ m.scope m.body=true):TablesWhole.wModule TablesWhole.holds m=true:=by
 unfold TablesWhole.wModule;rw[h2];show(true&&(TablesWhole.noTwice m.scope&&(TablesWhole.wSs TablesWhole.holds m.scope ⟨m.scope,[],[],[],none⟩ m.scope m.body&&true)))=true;rw[h1,h3];rfl
theorem Ad(p:Program)(h1:p.modules=[])(h2:p.parses=[])(h3:p.harvested=[])(h:TablesWhole.wModule TablesWhole.holds p.main=true):p.tablesWhole=true:=by
 unfold Program.tablesWhole TablesWhole.wProgram;rw[h,h1,h2,h3];rfl
theorem Zfw:TablesWhole.wSs TablesWhole.holds PW.main.scope cxT PW.main.scope PW.main.body=true:=by
 have e:PW.main.body=sl 0 120++(sl 120 50++(sl 170 30++sl 200 25)):=by kernel_rfl
 rw[congrArg (TablesWhole.wSs TablesWhole.holds PW.main.scope cxT PW.main.scope) e,Od,Od,Od];exact Um hs0 (Um hs1 (Um hs2 hs3))
theorem Zrg:PW.tablesWhole=true:=Ad PW rfl rfl rfl (Zaq PW.main Zpn Zzn Zfw)
theorem Ztc:namesResolve PW=true:=by
 rw[PySem.W.Fast.te8377067652309620493]
 kernel_rfl
theorem Yiy:readsOut PW PW.main.body "vars"=false:=by
 rw[PySem.W.Fast.te13343964577679436407]
 kernel_rfl
theorem Yiw:readsOut PW PW.main.body "dir"=false:=by
 rw[PySem.W.Fast.te13343964577679436407]
 kernel_rfl
theorem Yix:readsOut PW PW.main.body "locals"=false:=by
 rw[PySem.W.Fast.te13343964577679436407]
 kernel_rfl
theorem Yiz:(["vars","dir","locals"]:List Str).filter (readsOut PW PW.main.body)=[]:=by
 rw[List.filter_cons_of_neg (by rw[Yiy];exact Bool.false_ne_true),List.filter_cons_of_neg (by rw[Yiw];exact Bool.false_ne_true),List.filter_cons_of_neg (by rw[Yix];exact Bool.false_ne_true)];rfl
theorem Yig:noRoadLSs {strict:= !(importedModules PW.main.body).all cThrough.contains,foot:=none,bare:=(["vars","dir","locals"]:List Str).filter (readsOut PW PW.main.body)} PW.main.body=true:=by
 rw[Yiz,PySem.W.Fast.te8326940854005059898]
 kernel_rfl
theorem Yif:(namesMeet PW PW.main.body fun _ n=>attrL n)=true:=by
 rw[PySem.W.Fast.te17119622794617984870]
 kernel_rfl
theorem Zgs:looksOpen PW=true:=by
 unfold looksOpen;refine Um (Um (Um (Um (Um ?_ ?_) Ztc) ?_) Yig) Yif
 ·rw[PySem.W.Fast.te11788848310118352699];kernel_rfl
 ·rw[PySem.W.Fast.te9807087744658564304];kernel_rfl
 ·rw[PySem.W.Fast.te18344453789297297638,PySem.W.Fast.te14412699480532031325];kernel_rfl
theorem Zpu:PySem.W.Fast.tw17960256430627541270 (PySem.W.Fast.tw2368527892694137696 RWx)=true:=by
 unfold PySem.W.Fast.tw17960256430627541270 PySem.W.Fast.tw2436336058641802641
 repeat' (first |with_reducible refine Um ?_ ?_)
 ·exact(congrFun PySem.W.Fast.te12908688711261696721 PW).symm.trans Zgs
 all_goals kernel_rfl
theorem ws:RWx.wellSaid=true:=by
 rw[PySem.W.Fast.te9446332074065402090];unfold PySem.W.Fast.tw9446332074065402090
 repeat' (first |with_reducible exact Zpu |with_reducible refine Um ?_ ?_)
 all_goals (as_aux_lemma=>kernel_rfl)
noncomputable def DL:DefRec:=⟨"law",Sw (Zb 224),L2 (Zb 224),Uc (Zb 224),⟨862,0,891,15⟩⟩
theorem Zem:defOf QV RWx.row.name=some (DL,[]):=by kernel_rfl
theorem Zaa:RWx.row.prog.theDef RWx.row.name=some (DL.params,DL.body,DL.scope):=by kernel_rfl
theorem Yhs:kwWritten? DL.params.kwonlyargs DL.params.kw_defaults=some []:=by kernel_rfl
theorem ok_:(chainsOk QV&&opensWell RWx.row.prog&&(frees RWx.row.toRowW&&RWx.row.within.isEmpty))=true:=by
 repeat' (first |with_reducible refine Um ?_ ?_)
 all_goals (as_aux_lemma=>kernel_rfl)
theorem Zrh:RWx.row.prog.bare:=⟨rfl,rfl,rfl,rfl,rfl,Zrg⟩
theorem Zy6:RWx.row.toRowW.promised:=by
 show ∃args,_;exact⟨[WData.list []],by kernel_rfl,by kernel_rfl⟩
theorem Zyl(s:Shared)(_:XT s=true):RecFacts RWx.row.records s.heap:=
 ⟨fun _ h=>(nomatch h),fun _ h=>(nomatch h),fun _ _ _ h=>(by cases h),fun _ _ h=>(by cases h)⟩
abbrev Zzz:Prop:=WalkO QV Lb (fun _ _=>True) (fun w h=>(KF w.params).In h) RWx.row.toRowW DL [] (fun f vs=>PySem.call f vs)
theorem Yhr(P:Params):KA=(KF P).map (·.1):=by kernel_rfl
theorem Mj(walk:Zzz):RWx.Holds:=
 holds_law ws fun said=>holds_open (q:=QV) (loose:=Lb) (Xt:=XT) (XP:=fun _ _=>True) (Yf:=YF) (Ya:=YA) (YP:=fun w h=>(KF w.params).In h) (d:=DL) (kwd:=[]) (N:=17000) Zsy
  (fun w s e=>InK.of (K:=KF) Yhr w s e) (fun w h h' x k=>InK.keeps (K:=KF) w h h' x k) (fun _ _=>trivial) (fun _ _ _ _ _=>trivial)
  Zem Zaa Yhs Zyl rfl said ok_ Zrh Zy6 walk
end Mine
namespace Mine
open PySem PySem.W PySem.Calls PyProof.Rows PySem.SeqAt
set_option genInjectivity false
noncomputable def lawNs:List (Str×NameKind):=(Uc (Zb 224)).names
noncomputable def tL:Tn:=⟨lawNs,Ul T8,Ul Ox,Ul Rv,Ul Z9,Zg3⟩
theorem Zgy:ndB lawNs=true:=by kernel_rfl
theorem Zgw:lawNs.all (fun x=> !(x.1 == ("__debug__":Str)))=true:=by kernel_rfl
theorem Hy:((Uc (Zb 224)).isCoroutine,(Uc (Zb 224)).isGenerator,(Uc (Zb 224)).kind)=(false,false,ScopeKind.function):=by kernel_rfl
theorem Bk:lawNs.lookup ("nums":Str)=some NameKind.cell:=by kernel_rfl
theorem Hx(n:Nat):cellsFrom n lawNs []=[(("nums":Str),n)]:=by kernel_rfl
structure LawFd(fd:FuncData):Prop where
 params:fd.params=Sw (Zb 224)
 body:fd.body= .stmts (L2 (Zb 224))
 scope:fd.scope=Uc (Zb 224)
 glo:fd.globals=mainGlobals
 blt:fd.builtins=builtinsNs
 clo:fd.closure=[]
 dflt:fd.defaults= .none
abbrev Vl(fd:FuncData)(L a:Addr):Env:=callEnvC fd L a
theorem LawFd.env{fd:FuncData}(H:LawFd fd){w:World}{fx:List Fact}{old:Nat→Option O}{val:Int→Int}{slack:Nat}(L a:Addr):Yd (CK w fx old val slack) tL (Vl fd L a):=
 ⟨(congrArg Scope.kind H.scope).trans (congrArg (·.2.2) Hy),H.glo,H.blt,fun j x k e=>⟨(congrArg (fun s:Scope=>s.names.lookup x) H.scope).trans (U9 (O9 Zgy) e),nb (List.all_eq_true.mp Zgw _ (List.mem_of_getElem? e))⟩,fun i j x k k'=>Jb (O9 Zgy),rfl,rfl,rfl,rfl,rfl⟩
theorem LawFd.nums{fd:FuncData}(H:LawFd fd)(L a:Addr):(Vl fd L a).kindOf ("nums":Str)=some .cell∧(Vl fd L a).cells.lookup ("nums":Str)=some (L + 1):=by
 refine⟨(congrArg (fun s:Scope=>s.names.lookup _) H.scope).trans Bk,?_⟩;show(cellsFrom (L + 1) fd.scope.names []).lookup ("nums":Str)=_;rw[H.scope,show(Uc (Zb 224)).names=lawNs from rfl,Hx];rfl
structure LI(C:Cx)(σ:St)(ρ:Rho)(env:Env)(lo:Zd)(P:Addr→Obj→Prop)(cv:Option Value)(s₁ s:Shared):Prop where
 r:R C σ ρ s.heap
 F:FrS C σ ρ s.heap env tL lo
 p:∀b o,P b o→s.heap.get? b=some o∧b≠env.locals∧b≠env.locals + 1∧¬Own C σ ρ b
 rest:Yn s=Yn s₁
 cell:s.heap.IsCell (env.locals + 1) cv
 cown:¬Own C σ ρ (env.locals + 1)
 cliv:∀l,Z2 C σ l→ρ l≠env.locals + 1
 cK:C.K.lookup (env.locals + 1)=none
noncomputable abbrev ZL (C:Cx) (env:Env) (d:Nat) (mg mb:Str→Option Value):Zx:=⟨C,tL,env,d,mg,mb⟩
section
variable{C:Cx}{σ σ':St}{ρ ρ':Rho}{env:Env}{lo lo':Zd}{P P':Addr→Obj→Prop}{cv:Option Value}{s₁ s s':Shared}{d:Nat}{mg mb:Str→Option Value}{A:Around}
theorem Ps(a:Addr):a + 1≠a:=Nat.succ_ne_self a
theorem LI.pre(v:LI C σ ρ env lo P cv s₁ s)(rm:Room A d):Pre (ZL C env d mg mb) lo A s σ ρ:=⟨rm,v.r,v.F⟩
theorem LI.extl(v:LI C σ ρ env lo P cv s₁ s)(k:ExtL C env.locals σ ρ s σ' ρ' s')(r:R C σ' ρ' s'.heap)(F:FrS C σ' ρ' s'.heap env tL lo'):LI C σ' ρ' env lo' P cv s₁ s':=v.cell.elim fun oc z=>
 have hc:=k.own _ oc (Ps _) v.cown z.1
 ⟨r,F,fun b o h=>have z:=v.p b o h;⟨k.get b o z.2.1 z.2.2.2 z.1,z.2.1,z.2.2.1,k.own b o z.2.1 z.2.2.2 z.1⟩,k.rest.trans v.rest,⟨oc,k.get _ oc (Ps _) v.cown z.1,z.2⟩,hc,Vm k.base v.F.old k.rho v.cliv hc,v.cK⟩
theorem LI.at_(v:LI C σ ρ env lo P cv s₁ s)(Pr:Pre (ZL C env d mg mb) lo' A s' σ' ρ')(k:ExtL C env.locals σ ρ s σ' ρ' s'):LI C σ' ρ' env lo' P cv s₁ s':=v.extl k Pr.r Pr.F
theorem LI.ext(v:LI C σ ρ env lo P cv s₁ s)(k:Ext C σ ρ s σ' ρ' s')(r:R C σ' ρ' s'.heap):LI C σ' ρ' env lo P cv s₁ s':=v.extl k.l r (v.F.ext k)
theorem LI.grow(v:LI C σ ρ env lo P cv s₁ s)(k:∀b o,s.heap.get? b=some o→s'.heap.get? b=some o)(e:Yn s'=Yn s):LI C σ ρ env lo P cv s₁ s':=v.ext (.grow k e) (v.r.grow k)
theorem LI.toks(v:LI C σ ρ env lo P cv s₁ s)(tk:Nat):LI C σ ρ env lo P cv s₁ {s with toks:=tk}:=v.grow (fun _ _ g=>g) rfl
theorem LI.add(v:LI C σ ρ env lo P cv s₁ s){x:Addr}{ox:Obj}(h:s.heap.get? x=some ox)(hl:x≠env.locals)(hc:x≠env.locals + 1)(ho:¬Own C σ ρ x):LI C σ ρ env lo (fun b o=>P b o∨(b=x∧o=ox)) cv s₁ s:=
 ⟨v.r,v.F,fun b o z=>z.elim (v.p b o) fun z=>z.1 ▸ z.2 ▸ ⟨h,hl,hc,ho⟩,v.rest,v.cell,v.cown,v.cliv,v.cK⟩
theorem LI.weak(v:LI C σ ρ env lo P cv s₁ s)(h:∀(j:Nat) (u:V),lo'[j]? =some (some u)→lo[j]? =some (some u)):LI C σ ρ env lo' P cv s₁ s:=
 ⟨v.r,⟨v.F.at_.imp fun m z=>⟨z.1,fun j u e=>z.2 j u (h j u e)⟩,v.F.own,v.F.liv,v.F.far,v.F.old⟩,v.p,v.rest,v.cell,v.cown,v.cliv,v.cK⟩
theorem LI.touch(v:LI C σ ρ env lo P cv s₁ s){x:Addr}{h':Heap}{tk:Nat}{cv':Option Value}(hx:∀l,Z2 C σ l→ρ l≠x)(hK:C.K.lookup x=none)(hn:∀o vs n,s.heap.get? x=some o→o.data≠ .seq vs n)(hL:x≠env.locals)(hP:∀b o,P b o→b≠x)
 (k:∀b o,b≠x→s.heap.get? b=some o→h'.get? b=some o) (hc:h'.IsCell (env.locals + 1) cv'):LI C σ ρ env lo P cv' s₁ {s with heap:=h',toks:=tk}:=
 have st:Z4 s.heap (Own C σ ρ) h' (Own C σ ρ):=⟨fun b o vs n _ g e=>k b o (Y4 hn g e) g,fun _ _ _ _ n _ _=>n⟩
 ⟨v.r.loc hx hK hn k,⟨v.F.at_.imp fun m z=>⟨z.1.elim fun oL z=>⟨oL,z.imp fun es z=>z.imp fun ep z=>⟨k _ _ (Ne.symm hL) z.1,z.2⟩⟩,fun j u e=>(z.2 j u e).imp fun n z=>z.imp fun kk z=>z.imp fun x z=>⟨z.1,z.2.1,z.2.2.staysQ st (fun _ d=>d) (fun _ _=>rfl)⟩⟩,v.F.own,v.F.liv,v.F.far,v.F.old⟩,
   fun b o h=>have z:=v.p b o h;⟨k b o (hP b o h) z.1,z.2⟩,v.rest,hc,v.cown,v.cliv,v.cK⟩
theorem LI.setCell(v:LI C σ ρ env lo P cv s₁ s){cv':Option Value}{h':Heap}{tk:Nat}(hc:h'.IsCell (env.locals + 1) cv')(sb:Heap.SameBut (env.locals + 1) s.heap h'):LI C σ ρ env lo P cv' s₁ {s with heap:=h',toks:=tk}:=
 v.touch v.cliv v.cK (fun o vs n g e=>v.cell.elim fun oc z=>by rw[← sj (g.symm.trans z.1:some o=some oc)] at z;exact nomatch z.2.symm.trans e) (Ps _) (fun b o h=>(v.p b o h).2.2.1) (fun b x hb g=>(sb.2 b hb).trans g) hc
theorem LI.bind(X:Vr C mg mb)(N:Yd C tL env)(rm:Room A d)(v:LI C σ ρ env lo P cv s₁ s){j:Nat}{x:Str}(hx:okN tL .local j x=true){u:V}{y:Value}(vy:VR C σ ρ s.heap u y)(hb:Yv j u lo=some lo'){Q:Unit→Shared→Prop}{E:Value→Shared→Prop}(q:∀s',LI C σ ρ env lo' P cv s₁ s'→Q () s'):
 wpAny (model C.prog C.wld) A (storeName env x y) Q E s:=Xm (Z:=ZL C env d mg mb) ⟨X,N⟩ hx (v.pre rm) vy hb Q E fun s' Pr k=>q s' (v.at_ Pr k)
variable{cf:Nat→List V→St→Res}
theorem Zot{T:Tb}{m:Nat}{a:IS}{l:List IS}{lo lo':Zd}{σ σ':St}(h:kSs T cf m (a::l) lo σ=some (.next,lo',σ')){P:Prop}(k:∀lo1 σ1,kS T cf m a lo σ=some (.next,lo1,σ1)→kSs T cf m l lo1 σ1=some (.next,lo',σ')→P):P:=by
 cases l with
 |nil=>exact k lo' σ' h rfl
 |cons s r=>exact Zqy h k fun v lo2 σ2 _ z=>nomatch z
theorem LI.runs(X:Vr C mg mb)(N:Yd C tL env)(hcf:SoundCF C d cf):∀{l:List IS} {sts rest:List Stmt},Rm tL l sts=true→∀{lo lo':Zd} {σ σ':St} {ρ:Rho} {s:Shared},kSs C.T cf 2 l lo σ=some (.next,lo',σ')→LI C σ ρ env lo P cv s₁ s→
 ∀{A:Around} (Q:Flow→Shared→Prop) (E:Value→Shared→Prop),Room A d→(∀ρ' s',LI C σ' ρ' env lo' P cv s₁ s'→wpAny (model C.prog C.wld) A (execs rest env) Q E s')→wpAny (model C.prog C.wld) A (execs (sts++rest) env) Q E s
 | [],sts,rest,ok,lo,lo',σ,σ',ρ,s,ev,v,A,Q,E,rm,q=>Zt (M:=fun sts=>wpAny (model C.prog C.wld) A (execs (sts++rest) env) Q E s) ok fun _=>by
   have e:=Prod.mk.inj (Prod.mk.inj (sj (ev:some (Fl.next,lo,σ)=some (Fl.next,lo',σ')))).2;rw[e.1,e.2] at v;exact q ρ s v
 |a::l,sts,rest,ok,lo,lo',σ,σ',ρ,s,ev,v,A,Q,E,rm,q=>Z6 (k:=fun x r=>okS tL a x&&Rm tL l r) (M:=fun sts=>wpAny (model C.prog C.wld) A (execs (sts++rest) env) Q E s) ok fun st sts ok=>Zot ev fun lo1 σ1 h1 h2=>
  wpAny_execs_cons (Zoz (Z:=ZL C env d mg mb) ⟨X,N⟩ hcf 2 a st (a2 ok).1 lo σ _ lo1 σ1 h1 A s ρ _ _ (v.pre rm) fun ρ1 s1 f P1 k1 f1=>by
   rw[show f= .next from f1]
   exact LI.runs X N hcf (a2 ok).2 h2 (v.at_ P1 k1) Q E rm q)
end
noncomputable def Zm (j:Nat):List Stmt:=(L2 (Zb 224)).drop j
noncomputable def hdB (p:Stmt→Bool) (l:List Stmt):Bool:=Wc l fun x _=>p x
theorem Ce{p:Stmt→Bool}{j:Nat}(h:hdB p (Zm j)=true){M:List Stmt→Prop}(f:∀a,p a=true→M (a::Zm (j + 1))):M (Zm j):=by
 have e:Zm (j + 1)=(Zm j).tail:=List.tail_drop.symm;rw[e] at f;exact Z6 (k:=fun x _=>p x) (M:=fun l=>(∀a,p a=true→M (a::l.tail))→M l) h (fun a r h f=>f a h) f
theorem Ig(j k:Nat):Zm j=(Zm j).take k++Zm (j + k):=by
 unfold Zm;rw[← List.drop_drop,List.take_append_drop]
theorem Cj{h:Heap}{Pw:Addr→Prop}{ν:Int→Int}:∀{cs:List Int} {vs:List Value},IntsAre vs (cs.map ν)→RdDs h Pw (mDs ν (cs.map PyData.int)) vs
 | [],vs,e=>by
   cases(e:IntsAre vs []);rfl
 |c::cs,vs,e=>by
  cases(e:IntsAre vs (ν c::cs.map ν)) with
  |cons n t k=>exact⟨_,_,rfl,⟨t,rfl⟩,Cj k⟩
noncomputable def Ri (ns:List Int) (i:Int):Int:=Int.rec (fun n=>bp (Nat.blt n 100) 0 ((ns[n - 100]?).getD 0)) (fun _=>0) i
noncomputable def cs4 (ns:List Int):List Int:=(List.range (ns.take 4).length).map fun i=>uk (100 + i)
theorem Ls(ns:List Int):(cs4 ns).length≤4:=by
 unfold cs4;rw[List.length_map,List.length_range,List.length_take];exact Nat.min_le_left ..
theorem Dn(ns:List Int):(cs4 ns).map (vC (Ri ns))=ns.take 4:=by
 unfold cs4;refine List.ext_getElem? fun i=> ?_;rw[List.getElem?_map,List.getElem?_map];rcases Nat.lt_or_ge i (ns.take 4).length with h |h
 ·rw[List.getElem?_range h,List.getElem?_eq_getElem h]
  refine congrArg some ((N5 _ _).trans ?_);show bp (Nat.blt (100 + i) 100) 0 ((ns[100 + i - 100]?).getD 0)=_;rw[Uo (Nat.not_lt.mpr (Nat.le_add_right 100 i)),Nat.add_sub_cancel_left,show ns[i]? =some (ns.take 4)[i] by rw[← List.getElem?_eq_getElem h,List.getElem?_take_of_lt (Nat.lt_of_lt_of_le h (by rw[List.length_take];exact Nat.min_le_left ..))]];rfl
 ·rw[List.getElem?_eq_none (by rw[List.length_range];exact h),List.getElem?_eq_none h];rfl
noncomputable def loE:Zd:=[none,none,none,none,none,none,none,none,none]
noncomputable def uS (ns:List Int):V:= .dat (.list ((cs4 ns).map PyData.int))
noncomputable def is0 (st:Stmt):Bool:=Sb st fun xs v _=>Yt xs fun x=>kNm x fun x _=>Uk v fun a b _=>kNm a fun y _=>F3 b fun l u s _=>kNo l (kNo s (kSo u fun u=>R9 u fun c _ _=>kCi c fun i=>okN tL .local 0 x&&(Zs y "script"&&(okN tL .local 0 y&&decide (i=4)))))
theorem Zsn{st:Stmt}(h:is0 st=true){M:Stmt→Prop}(f:∀x px py kk pi sp p2 p3,okN tL .local 0 x=true→okN tL .local 0 "script"=true→M (.Assign [.Name x px] (.Subscript (.Name "script" py) (.Slice none (some (.Constant (.int 4) kk pi)) none sp) p2) p3)):M st:=
 Wb h fun xs v p3 h=>Zw (M:=fun xs=>M (.Assign xs v p3)) h fun x h=>Y2 (M:=fun x=>M (.Assign [x] v p3)) h fun x px h=>We (M:=fun v=>M (.Assign [.Name x px] v p3)) h fun a b p2 h=>Y2 (M:=fun a=>M (.Assign [.Name x px] (.Subscript a b p2) p3)) h fun y py h=>
 Ks (M:=fun b=>M (.Assign [.Name x px] (.Subscript (.Name y py) b p2) p3)) h fun l u s sp h=>Pn (M':=fun l=>M (.Assign [.Name x px] (.Subscript (.Name y py) (.Slice l u s sp) p2) p3)) h fun h=>Pn (M':=fun s=>M (.Assign [.Name x px] (.Subscript (.Name y py) (.Slice none u s sp) p2) p3)) h fun h=>
 S6 (M':=fun u=>M (.Assign [.Name x px] (.Subscript (.Name y py) (.Slice none u none sp) p2) p3)) h fun u h=>Xh (M:=fun u=>M (.Assign [.Name x px] (.Subscript (.Name y py) (.Slice none (some u) none sp) p2) p3)) h fun c kk pi h=>Pl (M:=fun c=>M (.Assign [.Name x px] (.Subscript (.Name y py) (.Slice none (some (.Constant c kk pi)) none sp) p2) p3)) h fun i h=>
 T1 h fun h1 h2 h3 h4=>by
  rw[of_decide_eq_true h4,strB_iff.mp h2];rw[strB_iff.mp h2] at h3;exact f x px py kk pi sp p2 p3 h1 h3
theorem Yhv:hdB is0 (Zm 0)=true:=by kernel_rfl
section
variable{w:World}{env:Env}{P:Addr→Obj→Prop}{cv:Option Value}{s₁ s:Shared}{A:Around}{d:Nat}
theorem Zof{ns:List Int}{ρ:Rho}(X:Vr (C0 w (Ri ns)) (Uf (KF w.params) 3) (Uf (KF w.params) 0))(N:Yd (C0 w (Ri ns)) tL env){st:Stmt}(h:is0 st=true){b:Addr}{vs:List Value}(hm:∃m,s.heap.Ns env.locals m∧m "script"=some (.ref b))(hl:s.heap.IsList b vs.toArray)(hI:IntsAre vs ns)(hz:vs.length≤1000)
 (v:LI (C0 w (Ri ns)) σk0 ρ0 env loE P cv s₁ s) (Q:Flow→Shared→Prop) (E:Value→Shared→Prop) (rm:Room A d) (q:∀s',LI (C0 w (Ri ns)) σk0 ρ0 env (lo0 (uS ns)) P cv s₁ s'→Q .next s'):wpAny (model PW w) A (exec st env) Q E s:=
 Zsn (M:=fun st=>wpAny (model PW w) A (exec st env) Q E s) h fun x px py kk pi sp p2 p3 h1 h2=>hm.elim fun m hm=>by
 have n:=Ym N h2;refine wpAny_Assign_Name (Subscript_ (wpAny_Name (wpAny_loadName_local N.kind n.2.1 hm.1 hm.2 ?_) n.2.2)) rfl;refine wpAny_Slice (wpAny_pure (wpAny_Constant_int (k:=kk) (pos:=pi) (wpAny_pure ?_)));have k1:∀b o,s.heap.get? b=some o→(s.heap.push {cls:= .type "slice",data:= .fields #[.none,.int 4 s.toks,.none]}).get? b=some o:=fun b o g=>Heap.get?_push_of_some _ g;have w1:LI (C0 w (Ri ns)) σk0 ρ0 env loE P cv s₁ {s with heap:=s.heap.push {cls:= .type "slice",data:= .fields #[.none,.int 4 s.toks,.none]},toks:=s.toks + 1}:=v.grow k1 rfl;have hl1:(s.heap.push {cls:= .type "slice",data:= .fields #[.none,.int 4 s.toks,.none]}).IsList b vs.toArray:=hl.at fun o e=>k1 b o e
 refine tail_any (s:={s with heap:=s.heap.push {cls:= .type "slice",data:= .fields #[.none,.int 4 s.toks,.none]},toks:=s.toks + 1}) hl1.typeIs slot_list_getitem.lookup
  (wpAny_getItem_list_slice (s:={s with heap:=s.heap.push {cls:= .type "slice",data:= .fields #[.none,.int 4 s.toks,.none]},toks:=s.toks + 1}) hl1 (Heap.IsSliceOf.new ..) .none (.int _ _) .none nofun ?_ (by rw[List.size_toArray,sizeLine_eq];exact Nat.le_trans hz (by decide))) (ops:=[.ref s.heap.objs.size,.ref b]) rfl
 rw[show(some 4:Option Int)=some ((4:Nat):Int) from rfl,slicePick_upto'];have il:IntsAre (vs.take 4) ((cs4 ns).map (vC (Ri ns))):=by rw[Dn];exact hI.take 4
 have g:=Ql (C:=C0 w (Ri ns)) w1.r (ds:=(cs4 ns).map PyData.int) (xs:=vs.take 4) (Cj il);exact(w1.grow (s':={s with heap:=(s.heap.push {cls:= .type "slice",data:= .fields #[.none,.int 4 s.toks,.none]}).push {cls:= .type "list",data:= .seq (vs.take 4).toArray},toks:=s.toks + 1}) Vv rfl).bind X N rm h1 (u:=uS ns) g rfl q
end
noncomputable def wIx (l:Lc):Option Nat:=match l with
 |.w=>some 0
 |.objs=>some 1
 |.arrs=>some 2
 |.vers=>some 3
 |_=>none
noncomputable def wLc (k:Nat):Lc:=bp (Nat.beq k 0) .w (bp (Nat.beq k 1) .objs (bp (Nat.beq k 2) .arrs .vers))
theorem Ez{l:Lc}{k:Nat}(h:wIx l=some k):l=wLc k:=by
 cases l with
 |w=>rw[← sj h];rfl
 |objs=>rw[← sj h];rfl
 |arrs=>rw[← sj h];rfl
 |vers=>rw[← sj h];rfl
 |_=>exact nn h
noncomputable def J4 (ρ:Rho) (a:Addr):Rho:=fun l=>Option.rec (ρ l) (fun k=>a + k) (wIx l)
noncomputable def W00:Wd:=⟨2,.tuple [],1,[],1,[],[],1⟩
theorem Jj{h:Heap}{a:Addr}(x:h.objs.size≤a):h.get? a=none:=by
 cases q:h.get? a with
 |none=>rfl
 |some o=>exact absurd (Heap.lt_size q) (Nat.not_lt.mpr x)
theorem lt4{k:Nat}{p:Nat→Prop}(h:k < 4)(p0:p 0)(p1:p 1)(p2:p 2)(p3:p 3):p k:=Xp (n:=4) ⟨⟨⟨⟨trivial,p0⟩,p1⟩,p2⟩,p3⟩ h
section
variable{C:Cx}{b:Nat}{ρ:Rho}{h0 h':Heap}{l:Lc}
theorem V8(d:Z2 C ⟨b,b,[],some W00⟩ l){P:Prop}(f:wIx l=none→Z2 C ⟨b,b,[],none⟩ l→P)(g:∀k,k < 4→wIx l=some k→P):P:=by
 cases l with
 |id n=>exact f rfl d
 |idd n=>exact f rfl d
 |w=>exact g 0 (by decide) rfl
 |objs=>exact g 1 (by decide) rfl
 |arrs=>exact g 2 (by decide) rfl
 |vers=>exact g 3 (by decide) rfl
 |obj k=>exact d.elim fun w z=>by rw[← sj z.1] at z;exact nf z.2
 |arr k=>exact d.elim fun w z=>by rw[← sj z.1] at z;exact nf z.2
theorem J5{a:Addr}(h:wIx l=none):J4 ρ a l=ρ l:=by unfold J4;rw[h]
theorem My{a:Addr}{k:Nat}(h:wIx l=some k):J4 ρ a l=a + k:=by unfold J4;rw[h]
theorem R.world(v0:C.val 0=0)(r:R C ⟨b,b,[],none⟩ ρ h0){x:Value}(keep:∀a o,h0.get? a=some o→h'.get? a=some o)
 (hm:h'.DictOf (strKind C.prog C.wld) h0.objs.size [("store",.ref (ρ (.id 2))),("objs",.ref (h0.objs.size + 1)),("arrays",.ref (h0.objs.size + 2)),("versions",.ref (h0.objs.size + 3)),("pair",x)])
 (hx:RdD h' (fun a=>∃k,k < 4∧a=h0.objs.size + k) (.tuple []) x) (ho:IsLx h' (h0.objs.size + 1) #[.none]) (ha:IsLx h' (h0.objs.size + 2) #[.none]) (hv:h'.IntMap (h0.objs.size + 3) (fun _=>none)) (hle:h'.DictLe (h0.objs.size + 3) 1) (hb:2 < b):
 R C ⟨b,b,[],some W00⟩ (J4 ρ h0.objs.size) h'∧Stays h0 (Own C ⟨b,b,[],none⟩ ρ) h' (Own C ⟨b,b,[],some W00⟩ (J4 ρ h0.objs.size))∧(∀l,Dom ⟨b,b,[],none⟩ l→Dom ⟨b,b,[],some W00⟩ l)∧(∀l,Dom ⟨b,b,[],none⟩ l→J4 ρ h0.objs.size l=ρ l):=by
 have no:∀k,h0.get? (h0.objs.size + k)=none:=fun k=>Jj (Nat.le_add_right _ _);have nl:∀{l} {k} {P:Prop},Z2 C ⟨b,b,[],none⟩ l→ρ l=h0.objs.size + k→P:=fun d e=>(r.there d).elim fun y hy=>by rw[e,no] at hy;exact nn hy
 have own:∀a,Own C ⟨b,b,[],some W00⟩ (J4 ρ h0.objs.size) a→∃k,k < 4∧a=h0.objs.size + k:=fun a z=>z.elim fun l z=>V8 z.1 (fun _ d=>by
  cases l with
  |id n=>exact d.elim fun o d=>absurd (r.at d.1) (Nat.not_lt.mpr z.2.1)
  |idd n=>exact d.elim fun c d=>d.elim fun vs d=>absurd (r.at d) (Nat.not_lt.mpr z.2.1)
  |_=>exact d.elim fun w d=>nn d.1) fun k h e=>⟨k,h,z.2.2.symm.trans (My e)⟩
 have st:Stays h0 (Own C ⟨b,b,[],none⟩ ρ) h' (Own C ⟨b,b,[],some W00⟩ (J4 ρ h0.objs.size)):=⟨fun a o _ g=>keep a o g,fun a o _ g z=>(own a z).elim fun k z=>by rw[z.2,no] at g;exact nn g⟩;have hd:∀l,Dom ⟨b,b,[],none⟩ l→Dom ⟨b,b,[],some W00⟩ l:=fun l d=>by
  cases l with
  |id n=>exact d
  |idd n=>exact d
  |_=>exact d.elim fun w d=>nn d.1
 have hr:∀l,Dom ⟨b,b,[],none⟩ l→J4 ρ h0.objs.size l=ρ l:=fun l d=>by
  cases l with
  |id n=>rfl
  |idd n=>rfl
  |_=>exact d.elim fun w d=>nn d.1
 have e1:C.ν 1=1:=Zo v0 rfl;have sl:1≤1 + C.slack:=Nat.le_add_right 1 _;refine⟨⟨r.fr.keeps keep,fun n o e=>(r.rep n o e).stays st hd hr (r.at e) (fun x g=>keep _ _ g) (fun _ x g=>keep _ _ g),fun w e=>sj e ▸ ?_,fun l l' d d' e=> ?_,fun l d y=> ?_,Nat.le_refl _,fun n a e=>r.sta n a e,r.sysK,fun l d=> ?_⟩,st,hd,hr⟩
 ·refine⟨⟨x,hm,?_⟩,⟨#[.none],ho,e1.symm,sl,fun k fs g=>nn g⟩,⟨#[.none],ha,e1.symm,sl,fun k fs g=>nn g⟩,fun k fs g=>nn g,fun k fs g=>nn g,⟨_,hv,Vg hle sl,fun k v g=>nn g⟩,fun k k' g=>nf g,fun k k' g=>nf g,hb,show 1≤200000 by decide,Int.le_of_eq e1.symm,Int.le_of_eq e1.symm⟩
  show RdD h' _ (mD C.ν (.tuple [])) x;rw[Se v0 rfl];exact RdD.stays ⟨fun _ _ _ g=>g,fun a _ n _ z=>n (own a z)⟩ hx
 ·refine V8 d (fun z d=> ?_) fun k _ z=> ?_
  ·rw[J5 z] at e
   exact V8 d' (fun z' d'=>r.inj _ _ d d' (e.trans (J5 z'))) fun k _ z'=>nl d (e.trans (My z'))
  ·rw[My z] at e
   exact V8 d' (fun z' d'=>nl d' ((J5 z').symm.trans e.symm)) fun k' _ z'=>by rw[My z'] at e;rw[Ez z,Ez z',Nat.add_left_cancel e]
 ·exact V8 d (fun z d=>J5 (ρ:=ρ) (a:=h0.objs.size) z ▸ r.far l d (by cases l <;> exact y)) fun k _ z=>My (ρ:=ρ) (a:=h0.objs.size) z ▸ Yb r (no k)
 ·refine V8 d (fun z d=>J5 (ρ:=ρ) (a:=h0.objs.size) z ▸ r.sys l d) fun k _ z e=>Ro r.sysK fun y hy=> ?_
  have:=r.fr _ _ hy;rw[← e,My z,no] at this;exact nn this
end
noncomputable def Yr:Obj:={cls:= .type "dict",data:= .dict #[]}
noncomputable def Yq:Obj:={cls:= .type "list",data:= .seq [Value.none].toArray}
noncomputable def Jq:Obj:={cls:= .type "tuple",data:= .seq ([]:List Value).toArray}
structure Zzw(h0 H:Heap)(a:Nat):Prop where
 g0:H.get? a=some Yr
 g1:H.get? (a + 1)=some Yq
 g2:H.get? (a + 2)=some Yq
 g3:H.get? (a + 3)=some Yr
 g4:H.get? (a + 4)=some Jq
 keep:∀b o,h0.get? b=some o→H.get? b=some o
theorem Wl(h:Heap)(o:Obj):(h.push o).objs.size=h.objs.size + 1:=Heap.size_push ..
theorem Yhm(h0:Heap):Zzw h0 (((((h0.push Yr).push Yq).push Yq).push Yr).push Jq) h0.objs.size:=by
 have s1:(h0.push Yr).objs.size=h0.objs.size + 1:=Wl ..;have s2:((h0.push Yr).push Yq).objs.size=h0.objs.size + 2:=(Wl ..).trans (congrArg (· + 1) s1);have s3:(((h0.push Yr).push Yq).push Yq).objs.size=h0.objs.size + 3:=(Wl ..).trans (congrArg (· + 1) s2);have s4:((((h0.push Yr).push Yq).push Yq).push Yr).objs.size=h0.objs.size + 4:=(Wl ..).trans (congrArg (· + 1) s3);have P:∀{h:Heap} {o:Obj} {a:Addr} {x:Obj},h.get? a=some x→(h.push o).get? a=some x:=fun g=>Heap.get?_push_of_some _ g;exact⟨P (P (P (P (Heap.get?_push_size _ rfl)))),P (P (P (s1 ▸ Heap.get?_push_size (o:=Yq) (h0.push Yr) rfl))),P (P (s2 ▸ Heap.get?_push_size (o:=Yq) _ rfl)),P (s3 ▸ Heap.get?_push_size (o:=Yr) _ rfl),s4 ▸ Heap.get?_push_size (o:=Jq) _ rfl,fun a o g=>P (P (P (P (P g))))⟩
theorem Yj6{a b c d e:Value}:((([]:List (Str×Value))++[(("store":Str),a),(("objs":Str),b),(("arrays":Str),c),(("versions":Str),d),(("pair":Str),e)]).map (·.1)).Nodup:=by
 show([("store":Str),("objs":Str),("arrays":Str),("versions":Str),("pair":Str)]:List Str).Nodup;decide +kernel
section
variable{α:Type}{M:List α→Prop}{l:List α}
noncomputable def kL5 (l:List α) (k:α→α→α→α→α→Bool):Bool:=Wc l fun a l=>Wc l fun b l=>Wc l fun c l=>Wc l fun d l=>Yt l fun e=>k a b c d e
@[elab_as_elim] theorem C2 {k:α→α→α→α→α→Bool} (h:kL5 l k=true) (f:∀a b c d e,k a b c d e=true→M [a,b,c,d,e]):M l:=Z6 h fun a l h=>Z6 (M:=fun l=>M (a::l)) h fun b l h=>Z6 (M:=fun l=>M (a::b::l)) h fun c l h=>Z6 (M:=fun l=>M (a::b::c::l)) h fun d l h=>Zw (M:=fun l=>M (a::b::c::d::l)) h fun e h=>f a b c d e h
end
section
variable{M:Expr→Prop}{M':Option Expr→Prop}
noncomputable def okK (s:Str) (o:Option Expr):Bool:=kSo o fun e=>R9 e fun c _ _=>kCs c fun t=>Zs t s
@[elab_as_elim] theorem Js {s:Str} {o:Option Expr} (h:okK s o=true) (f:∀j p,M' (some (.Constant (.str s) j p))):M' o:=S6 h fun e h=>Xh (M:=fun e=>M' (some e)) h fun c j p h=>Kp (M:=fun c=>M' (some (.Constant c j p))) h fun t h=>strB_iff.mp h ▸ f j p
noncomputable def Zy0 (e:Expr):Bool:=Zgi e fun l _=>Yt l fun a=>R9 a fun c _ _=>kCn c
@[elab_as_elim] theorem Ed {e:Expr} (h:Zy0 e=true) (f:∀j p q,M (.List [.Constant .none j p] q)):M e:=F1 h fun l q h=>Zw (M:=fun l=>M (.List l q)) h fun a h=>Xh (M:=fun a=>M (.List [a] q)) h fun c j p h=>Zgb (M:=fun c=>M (.List [.Constant c j p] q)) h (f j p q)
noncomputable def Ygp (e:Expr):Bool:=Mk e fun l _ _=>X4 l true
@[elab_as_elim] theorem Zn0 {e:Expr} (h:Ygp e=true) (f:∀j p,M (.Tuple [] j p)):M e:=Kt h fun l j p h=>Zt (M:=fun l=>M (.Tuple l j p)) h fun _=>f j p
noncomputable def Ygo (e:Expr):Bool:=S4 e fun ks vs _=>X4 ks (X4 vs true)
@[elab_as_elim] theorem Zmy {e:Expr} (h:Ygo e=true) (f:∀p,M (.Dict [] [] p)):M e:=S5 h fun ks vs p h=>Zt (M:=fun ks=>M (.Dict ks vs p)) h fun h=>Zt (M:=fun vs=>M (.Dict [] vs p)) h fun _=>f p
end
noncomputable def is8 (st:Stmt):Bool:=Sb st fun xs v _=>Yt xs fun x=>kNm x fun x _=>S4 v fun ks vs _=>kL5 ks fun k1 k2 k3 k4 k5=>kL5 vs fun v1 v2 v3 v4 v5=>okK "store" k1&&(okK "objs" k2&&(okK "arrays" k3&&(okK "versions" k4&&(okK "pair" k5&&(okN tL .local 2 x&&(X5 tL 1 v1&&(Zy0 v2&&(Zy0 v3&&(Ygo v4&&Ygp v5)))))))))
theorem Yhw:hdB is8 (Zm 8)=true:=by kernel_rfl
theorem Zsp{st:Stmt}(h:is8 st=true){M:Stmt→Prop}(f:∀x px ja pa jb pb jc pc jd pd je pe y py jn1 pn1 pl1 jn2 pn2 pl2 pdd jt pt pD pA,okN tL .local 2 x=true→okN tL .local 1 y=true→
 M (.Assign [.Name x px] (.Dict [some (.Constant (.str "store") ja pa),some (.Constant (.str "objs") jb pb),some (.Constant (.str "arrays") jc pc),some (.Constant (.str "versions") jd pd),some (.Constant (.str "pair") je pe)] [.Name y py,.List [.Constant .none jn1 pn1] pl1,.List [.Constant .none jn2 pn2] pl2,.Dict [] [] pdd,.Tuple [] jt pt] pD) pA)):M st:=
 Wb h fun xs v pA h=>Zw (M:=fun xs=>M (.Assign xs v pA)) h fun x h=>Y2 (M:=fun x=>M (.Assign [x] v pA)) h fun x px h=>S5 (M:=fun v=>M (.Assign [.Name x px] v pA)) h fun ks vs pD h=>C2 (M:=fun ks=>M (.Assign [.Name x px] (.Dict ks vs pD) pA)) h fun k1 k2 k3 k4 k5 h=>C2 (M:=fun vs=>M (.Assign [.Name x px] (.Dict [k1,k2,k3,k4,k5] vs pD) pA)) h fun v1 v2 v3 v4 v5 h=>
 T2 h fun h1 h2 h3 h4 h=>T2 h fun h5 h6 h7 h8 h=>Xy h fun h9 h10 h11=>
 Js (M':=fun k1=>M (.Assign [.Name x px] (.Dict [k1,k2,k3,k4,k5] [v1,v2,v3,v4,v5] pD) pA)) h1 fun ja pa=>Js (M':=fun k2=>M (.Assign [.Name x px] (.Dict [_,k2,k3,k4,k5] [v1,v2,v3,v4,v5] pD) pA)) h2 fun jb pb=>Js (M':=fun k3=>M (.Assign [.Name x px] (.Dict [_,_,k3,k4,k5] [v1,v2,v3,v4,v5] pD) pA)) h3 fun jc pc=>
 Js (M':=fun k4=>M (.Assign [.Name x px] (.Dict [_,_,_,k4,k5] [v1,v2,v3,v4,v5] pD) pA)) h4 fun jd pd=>Js (M':=fun k5=>M (.Assign [.Name x px] (.Dict [_,_,_,_,k5] [v1,v2,v3,v4,v5] pD) pA)) h5 fun je pe=>Y2 (k:=fun y _=>okN tL .local 1 y) (M:=fun v1=>M (.Assign [.Name x px] (.Dict _ [v1,v2,v3,v4,v5] pD) pA)) h7 fun y py hy=>
 Ed (M:=fun v2=>M (.Assign [.Name x px] (.Dict _ [_,v2,v3,v4,v5] pD) pA)) h8 fun j1 p1 q1=>Ed (M:=fun v3=>M (.Assign [.Name x px] (.Dict _ [_,_,v3,v4,v5] pD) pA)) h9 fun j2 p2 q2=>Zmy (M:=fun v4=>M (.Assign [.Name x px] (.Dict _ [_,_,_,v4,v5] pD) pA)) h10 fun pdd=>Zn0 (M:=fun v5=>M (.Assign [.Name x px] (.Dict _ [_,_,_,_,v5] pD) pA)) h11 fun jt pt=>
 f x px ja pa jb pb jc pc jd pd je pe y py j1 p1 q1 j2 p2 q2 pdd jt pt pD pA h6 hy
section
variable{C:Cx}{ρ:Rho}{env:Env}{lo lo1:Zd}{P:Addr→Obj→Prop}{cv:Option Value}{s₁ s:Shared}{d b:Nat}{mg mb:Str→Option Value}
theorem LI.world(X:Vr C mg mb)(hb2:2 < b)(v:LI C ⟨b,b,[],none⟩ ρ env lo P cv s₁ s){h':Heap}{tk:Nat}(F:Zzw s.heap (((((s.heap.push Yr).push Yq).push Yq).push Yr).push Jq) s.heap.objs.size)
 (hd:h'.DictOf (strKind C.prog C.wld) s.heap.objs.size [("store",.ref (ρ (.id 2))),("objs",.ref (s.heap.objs.size + 1)),("arrays",.ref (s.heap.objs.size + 2)),("versions",.ref (s.heap.objs.size + 3)),("pair",.ref (s.heap.objs.size + 4))])
 (sb:Heap.SameBut s.heap.objs.size (((((s.heap.push Yr).push Yq).push Yq).push Yr).push Jq) h'):LI C ⟨b,b,[],some W00⟩ (J4 ρ s.heap.objs.size) env lo P cv s₁ {s with heap:=h',toks:=tk}:=by
 have ne:∀k,s.heap.objs.size + (k + 1)≠s.heap.objs.size:=fun k=>Nat.ne_of_gt (Nat.lt_add_of_pos_right (Nat.zero_lt_succ k))
 have z:=v.r.world X.v0 (fun a o g=>(sb.2 a (fun e=>by rw[e,Zv] at g;exact nn g)).trans (F.keep a o g)) hd
  ⟨_,_,_,_,rfl,fun z=>z.elim fun k z=>absurd z.1 (Nat.not_lt.mpr (Nat.le_of_eq (Nat.add_left_cancel z.2))),(sb.2 _ (ne 3)).trans F.g4,rfl,rfl,rfl⟩ ⟨0,(sb.2 _ (ne 0)).trans F.g1⟩ ⟨0,(sb.2 _ (ne 1)).trans F.g2⟩
  ⟨_,#[],0,(sb.2 _ (ne 2)).trans F.g3,rfl,rfl,fun _ he=>by simp at he,fun k=>rfl⟩ (fun o es ep g e=>by rw[(sb.2 _ (ne 2)).trans F.g3] at g;rw[← sj g] at e;cases e;exact Nat.zero_le _) hb2
 exact v.ext (s':={s with heap:=h',toks:=tk}) ⟨z.2.1,z.2.2.1,z.2.2.2,rfl,rfl⟩ z.1
theorem Zyo(X:Vr C mg mb)(N:Yd C tL env){st:Stmt}(h:is8 st=true)(hx:lo[1]? =some (some (.loc (.id 2))))(hb2:2 < b)(v:LI C ⟨b,b,[],none⟩ ρ env lo P cv s₁ s)(hb:Yv 2 (.loc .w) lo=some lo1)
 {A:Around} (Q:Flow→Shared→Prop) (E:Value→Shared→Prop) (rm:Room A d) (q:∀ρ' s',LI C ⟨b,b,[],some W00⟩ ρ' env lo1 P cv s₁ s'→Q .next s'):wpAny (model C.prog C.wld) A (exec st env) Q E s:=
 Zsp (M:=fun st=>wpAny (model C.prog C.wld) A (exec st env) Q E s) h fun x px ja pa jb pb jc pc jd pd je pe y py jn1 pn1 pl1 jn2 pn2 pl2 pdd jt pt pD pA h1 h2=>by
 have n:=Ym N h2;have v1:LI C ⟨b,b,[],none⟩ ρ env lo P cv s₁ {s with heap:=s.heap.push {cls:= .type "dict",data:= .dict #[]}}:=v.grow (fun _ _ g=>Heap.get?_push_of_some _ g) rfl;obtain⟨m,am,bm⟩:=v1.F.at_;obtain⟨nn,kk,xs,z1,z2,z3⟩:=bm 1 _ hx;rw[show nn=y from(Prod.mk.inj (sj (z1.symm.trans n.1))).1,show xs= .ref (ρ (.id 2)) from z3.1] at z2;refine wpAny_Assign_Name (wpAny_Dict_walk (knd:=strKind C.prog C.wld) rfl rfl nofun (show 5≤15 by decide) ?_) rfl;refine pairTrees_cons_walk (wpAny_Constant_str (wpAny_Name (wpAny_loadName_local N.kind n.2.1 am z2 ?_) n.2.2));refine pairTrees_cons_walk (wpAny_Constant_str (wpAny_List (args_cons (wpAny_Constant_none (args_nil ⟨by decide,?_⟩)) rfl)));refine pairTrees_cons_walk (wpAny_Constant_str (wpAny_List (args_cons (wpAny_Constant_none (args_nil ⟨by decide,?_⟩)) rfl)));refine pairTrees_cons_walk (wpAny_Constant_str (wpAny_Dict_empty ?_));refine pairTrees_cons_walk (wpAny_Constant_str (wpAny_Tuple (args_nil ⟨by decide,pairTrees_nil_walk ?_⟩)));have F:=Yhm s.heap;have e1:(s.heap.push Yr).objs.size=s.heap.objs.size + 1:=Wl ..;have e2:((s.heap.push Yr).push Yq).objs.size=s.heap.objs.size + 2:=(Wl ..).trans (congrArg (· + 1) e1);have e3:(((s.heap.push Yr).push Yq).push Yq).objs.size=s.heap.objs.size + 3:=(Wl ..).trans (congrArg (· + 1) e2);have e4:((((s.heap.push Yr).push Yq).push Yq).push Yr).objs.size=s.heap.objs.size + 4:=(Wl ..).trans (congrArg (· + 1) e3)
 refine⟨[(("store":Str),.ref (ρ (.id 2))),(("objs":Str),.ref (s.heap.push Yr).objs.size),(("arrays":Str),.ref ((s.heap.push Yr).push Yq).objs.size),(("versions":Str),.ref (((s.heap.push Yr).push Yq).push Yq).objs.size),(("pair":Str),.ref ((((s.heap.push Yr).push Yq).push Yq).push Yr).objs.size)],
  ⟨strKind_is _ _ "store" _,rfl,strKind_is _ _ "objs" _,rfl,strKind_is _ _ "arrays" _,rfl,strKind_is _ _ "versions" _,rfl,strKind_is _ _ "pair" _,rfl,trivial⟩,⟨_,#[],0,F.g0,⟨rfl,rfl,rfl⟩,rfl,fun _ he=>by simp at he,.nil,List.nodup_nil⟩,fun h' hd sb=> ?_⟩
 rw[V1 Yj6,List.nil_append,e1,e2,e3,e4] at hd;exact(v.world (tk:=s.toks + 1 + 1 + 1 + 1 + 1 + 5) X hb2 F hd sb).bind X N rm h1 (u:= .loc .w) (y:= .ref s.heap.objs.size) ⟨rfl,W00,rfl,trivial⟩ hb fun s4 v4=>q _ s4 v4
end
theorem Py(a b c d e x:Value):stored [((Str.ofString "store"),a),(Str.ofString "objs",b),(Str.ofString "arrays",c),(Str.ofString "versions",d),(Str.ofString "pair",e)] (Str.ofString "pair") x=
 [((Str.ofString "store"),a),(Str.ofString "objs",b),(Str.ofString "arrays",c),(Str.ofString "versions",d),(Str.ofString "pair",x)]:=by kernel_rfl
noncomputable def V4 (σ:St) (w:Wd) (d:D):St:={σ with w:=some {w with pair:=d}}
section
variable{C:Cx}
theorem R.putPair{σ:St}{ρ:Rho}{h h':Heap}{w:Wd}{d:D}{x:Value}(r:R C σ ρ h)(hw:σ.w=some w)(k:∀b x,b≠ρ .w→h.get? b=some x→h'.get? b=some x)
 (hm:h'.DictOf (strKind C.prog C.wld) (ρ .w) [("store",.ref (ρ (.id w.sid))),("objs",.ref (ρ .objs)),("arrays",.ref (ρ .arrs)),("versions",.ref (ρ .vers)),("pair",x)]) (hx:RdD h (Own C σ ρ) (mD C.ν d) x):
 R C (V4 σ w d) ρ h'∧Stays h (Own C σ ρ) h' (Own C (V4 σ w d) ρ)∧(∀l,Dom σ l→Dom (V4 σ w d) l):=by
 have W:=r.rw w hw;have hn:=Zv h;have nD:∀{b x},h.get? b=some x→b≠h.objs.size:=fun g z=>by rw[z,hn] at g;exact nn g
 have lw:Tz σ fun _=>True:=Fo hw trivial;have dm:=I8 hw (w':={w with pair:=d}) (fun k z=>z) fun k z=>z
 have z:=r.wld (ρ':=ρ) (h':=h') (w':={w with pair:=d}) (lcN:= .w) (lcL:= .w) (σ':=V4 σ w d) hw rfl (fun l d=>(r.there d).elim fun x hx=>nD hx) (Yb r hn) (fun o _ _ z=>by rw[hn] at z;exact nn z) (fun _ _=>rfl) (fun _=>rfl) lw ⟨nofun,nofun⟩
  (fun l dl=> .inl ((Hw (lcN:= .id 0) (w':={w with pair:=d}) hw (fun k z=> .inl z) (fun k z=> .inl z) l dl).elim id fun e=>by subst e;exact dl)) dm (fun b x hb _ g=>k b x hb g)
  fun st un=>⟨⟨x,hm,hx.staysQ st⟩,W.objs_e fun items a b c d=>⟨items,Wx a (un .objs lw nofun),b,c,d⟩,W.arrs_e fun items a b c d=>⟨items,Wx a (un .arrs lw nofun),b,c,d⟩,
   fun k fs q=>W.obj_e q fun kvs l d b=>⟨l,kvs,Yi d (un (.obj k) (Hu hw q) nofun),b⟩,fun k xs q=>W.arr_e q fun items d b=>⟨items,Wx d (un (.arr k) (Ht hw q) nofun),b⟩,
   W.vers_e fun f a b c=>⟨f,Vx a (un .vers lw nofun),Vt a b (un .vers lw nofun),c⟩,W.dis,W.disA,W.sid,W.bd,W.po,W.pa⟩
 exact⟨z.1,⟨fun b x nb g=>z.2.1 b x (nD g) nb g,fun b x nb g=>z.2.2 b (nD g) nb⟩,dm⟩
noncomputable def Zqh (e:IE) (st:Stmt):Bool:=Sb st fun xs v _=>Yt xs fun a=>Uk a fun x y _=>kNm x fun x _=>R9 y fun c _ _=>kCs c fun y=>okN tL .local 2 x&&(Zs y "pair"&&(okE tL e v&& !Zq v))
theorem Zg6{e:IE}{st:Stmt}(h:Zqh e st=true){M:Stmt→Prop}(f:∀x px ky py ps v pA,okN tL .local 2 x=true→okE tL e v=true→(!Zq v)=true→M (.Assign [.Subscript (.Name x px) (.Constant (.str "pair") ky py) ps] v pA)):M st:=
 Wb h fun xs v pA h=>Zw (M:=fun xs=>M (.Assign xs v pA)) h fun a h=>We (M:=fun a=>M (.Assign [a] v pA)) h fun x y ps h=>Y2 (M:=fun x=>M (.Assign [.Subscript x y ps] v pA)) h fun x px h=>Xh (M:=fun y=>M (.Assign [.Subscript (.Name x px) y ps] v pA)) h fun c ky py h=>
 Kp (M:=fun c=>M (.Assign [.Subscript (.Name x px) (.Constant c ky py) ps] v pA)) h fun y h=>T1 h fun h1 h2 h3 h4=>strB_iff.mp h2 ▸ f x px ky py ps v pA h1 h3 h4
variable{σ σ1:St}{ρ:Rho}{env:Env}{lo:Zd}{P:Addr→Obj→Prop}{cv:Option Value}{s₁ s:Shared}{d:Nat}{mg mb:Str→Option Value}{cf:Nat→List V→St→Res}
theorem Znz(X:Vr C mg mb)(N:Yd C tL env)(hcf:SoundCF C d cf){e:IE}{st:Stmt}(h:Zqh e st=true){dd:D}{w:Wd}(ev:(kE C.T cf 2 e).1 lo σ=some (.dat dd,σ1))(hw:σ1.w=some w)(hlo:lo[2]? =some (some (.loc .w)))
 (v:LI C σ ρ env lo P cv s₁ s) {A:Around} (Q:Flow→Shared→Prop) (E:Value→Shared→Prop) (rm:Room A d) (q:∀ρ' s',LI C (V4 σ1 w dd) ρ' env lo P cv s₁ s'→Q .next s'):wpAny (model C.prog C.wld) A (exec st env) Q E s:=
 Zg6 (M:=fun st=>wpAny (model C.prog C.wld) A (exec st env) Q E s) h fun x px ky py ps vx pA h1 h3 h4=>by
 have n:=Ym N h1;have S:=(Mz (Z:=ZL C env d mg mb) ⟨X,N⟩ hcf 2 e vx h3).s;refine wpAny_Assign_Subscript (S.s lo σ _ σ1 ev A s ρ _ _ (v.pre rm) fun ρ1 s1 u P1 k1 v1=> ?_) (V3 S.p h4 _ _);have w1:=v.ext k1 P1.r;obtain⟨m,am,bm⟩:=w1.F.at_;obtain⟨nn,kk,xs,z1,z2,z3⟩:=bm 2 _ hlo;rw[show nn=x from(Prod.mk.inj (sj (z1.symm.trans n.1))).1,show xs= .ref (ρ1 .w) from z3.1] at z2;refine wpAny_Name (wpAny_loadName_local N.kind n.2.1 am z2 (wpAny_Constant_str ?_)) n.2.2;refine(P1.r.rw w hw).main_e fun x0 m1 m2=>wpAny_setItem_pairs (knd:=strKind C.prog C.wld) (strKind_is _ _ _ _) (s:={s1 with toks:=s1.toks + 1}) m1 (fun h' dh sb=> ?_) (by rw[sizeLine_eq];show 5≤_;decide);rw[Py] at dh;have z:=P1.r.putPair hw (fun b x hb g=>(sb.2 b hb).trans g) dh v1;exact q ρ1 {s1 with heap:=h',toks:=s1.toks + 1 + 1} (w1.ext ⟨z.2.1,z.2.2,fun _ _=>rfl,rfl,rfl⟩ z.1)
end
noncomputable def Zso (st:Stmt):Bool:=Sb st fun xs v _=>Yt xs fun x=>kNm x fun x _=>Zmz v fun elt z it=>Pj elt fun y o m _=>kNm y fun y _=>R9 m fun c _ _=>kCi c fun i=>okN tL .cell 4 x&&(Zs x "nums"&&(Zs y z&&(decide (o= .Mod)&&(decide (i=1000000007)&&X5 tL 0 it))))
theorem Zfz{st:Stmt}(h:Zso st=true){M:Stmt→Prop}(f:∀px z py km pm pb pz u pu sc pc pA,okN tL .cell 4 "nums"=true→Yc sc z=true→okN tL .local 0 u=true→M (.Assign [.Name "nums" px] (.ListComp (.BinOp (.Name z py) .Mod (.Constant (.int 1000000007) km pm) pb) [⟨.Name z pz,.Name u pu,[],0⟩] sc pc) pA)):M st:=
 Wb h fun xs v pA h=>Zw (M:=fun xs=>M (.Assign xs v pA)) h fun x h=>Y2 (M:=fun x=>M (.Assign [x] v pA)) h fun x px h=>Jt (M:=fun v=>M (.Assign [.Name x px] v pA)) h fun elt z pz it sc pc hs h=>Wv (M:=fun elt=>M (.Assign [.Name x px] (.ListComp elt [⟨.Name z pz,it,[],0⟩] sc pc) pA)) h fun y o m pb h=>
 Y2 (M:=fun y=>M (.Assign [.Name x px] (.ListComp (.BinOp y o m pb) [⟨.Name z pz,it,[],0⟩] sc pc) pA)) h fun y py h=>Xh (M:=fun m=>M (.Assign [.Name x px] (.ListComp (.BinOp (.Name y py) o m pb) [⟨.Name z pz,it,[],0⟩] sc pc) pA)) h fun c km pm h=>Pl (M:=fun c=>M (.Assign [.Name x px] (.ListComp (.BinOp (.Name y py) o (.Constant c km pm) pb) [⟨.Name z pz,it,[],0⟩] sc pc) pA)) h fun i h=>
 Xy h fun h1 h2 h=>T1 h fun h3 h4 h5 h6=>by
  rw[strB_iff.mp h2] at h1 ⊢;rw[strB_iff.mp h3,of_decide_eq_true h4,of_decide_eq_true h5];exact Y2 (k:=fun y _=>okN tL .local 0 y) (M:=fun it=>M (.Assign [.Name "nums" px] (.ListComp (.BinOp (.Name z py) .Mod (.Constant (.int 1000000007) km pm) pb) [⟨.Name z pz,it,[],0⟩] sc pc) pA)) h6 fun u pu h6=>f px z py km pm pb pz u pu sc pc pA h1 hs h6
theorem Zt3:hdB Zso (Zm 14)=true:=by kernel_rfl
theorem Si{m:Int}{ν:Int→Int}:∀{cs:List Int} {vs ys:List Value},vs.length=cs.length→(∀(j:Nat) (v:Value),vs[j]? =some v→∃c t,cs[j]? =some c∧v=Value.int (ν c) t)→
 Paired (fun v y=>∃a t u,v=Value.int a t∧y=Value.int (a.fmod m) u) vs ys→IntsAre ys (cs.map fun c=>(ν c).fmod m)
 | [],[],ys,_,_,h=>by cases h;exact .nil
 | [],_::_,ys,e,_,h=>nomatch e
 |_::_,[],ys,e,_,h=>nomatch e
 |c::cs,v::vs,ys,e,hv,h=>by
  cases h with
  |cons hF ht=>
   refine hF.elim fun a z=>z.elim fun t z=>z.elim fun u z=>(hv 0 _ rfl).elim fun c' y=>y.elim fun t' y=> ?_;have e1:=z.1.symm.trans y.2;rw[← sj y.1] at e1;rw[z.2,(Value.int.inj e1).1];exact .cons _ u (Si (Nat.succ.inj e) (fun j v h=>hv (j + 1) v h) ht)
section
variable{C:Cx}{σ:St}{ρ:Rho}{env:Env}{lo:Zd}{P:Addr→Obj→Prop}{cv:Option Value}{s₁ s:Shared}{d:Nat}{mg mb:Str→Option Value}
theorem Jz{A:Around}{sc:Scope}{x:Str}{py pk pb:Pos}{k:Nat}{m:Int}(hm0:m≠0){wr:List Addr}{P:Nat→Value→Prop}{s₂:Shared}(S:ScOk sc x)(hP:∀i v,P i v→∃a t,v=Value.int a t):
 QuietOn C.prog C.wld A env sc x [] (.BinOp (.Name x py) .Mod (.Constant (.int m) k pk) pb) wr P (fun _=>true) (fun v y=>∃a t u,v=Value.int a t∧y=Value.int (a.fmod m) u) s₂:=
 ⟨fun K i v s₃ m₃ E' _ _ _ _ _=>wpAny_pure ⟨rfl,Keeps.refl' _⟩,fun K i v s₃ m₃ E' hp _ hn hm _ _=>by
   obtain⟨a,t,rfl⟩:=hP i v hp
   exact wpAny_BinOp (wpAny_Name (wpAny_loadName_local S.kind S.look hn hm (wpAny_Constant_int (mod_int hm0 ⟨⟨a,t,_,rfl,rfl⟩,s₃.heap,s₃.toks + 1 + 1,rfl,fun _ _ g=>g⟩))) S.dbg)⟩
theorem Jm(N:Yd C tL env){x:Str}(hx:env.kindOf x=some .cell){e:Expr}{g:List Comprehension}{sc:Scope}{p np:Pos}{n:Nat}:swapsWith (.ListComp e g sc p) (some (.Name x np)) n env=pure false:=by
 show(pure (env.blockKind == .function&&env.kindOf x == some .local&&np.line == (Expr.ListComp e g sc p).pos.line&& !(sc.names.any fun(m,k)=>m == x&&(k == .local || k == .cell))):Sem Bool)=pure false;rw[show(env.kindOf x == some .local)=false by rw[hx];rfl,Bool.and_false,Bool.false_and,Bool.false_and]
theorem Zog(X:Vr C mg mb)(N:Yd C tL env)(hcl:env.cells.lookup ("nums":Str)=some (env.locals + 1)){st:Stmt}(h:Zso st=true){cs:List Int}(hx:lo[0]? =some (some (.dat (.list (cs.map PyData.int)))))(hz:cs.length≤100000)(v:LI C σ ρ env lo P cv s₁ s)
 {A:Around} (Q:Flow→Shared→Prop) (E:Value→Shared→Prop) (rm:Room A d) (q:∀ρ' s' D items n,IntsAre items.toList (cs.map fun c=>(C.ν c).fmod 1000000007)→
   LI C σ ρ' env lo (fun b o=>P b o∨(b=D∧o={cls:= .type "list",data:= .seq items n})) (some (.ref D)) s₁ s'→Q .next s'):wpAny (model C.prog C.wld) A (exec st env) Q E s:=
 Zfz (M:=fun st=>wpAny (model C.prog C.wld) A (exec st env) Q E s) h fun px z py km pm pb pz u pu sc pc pA h1 h2 h3=>by
 have c:=Ym N h1;have S:=Wq h2;have ev:eNm 0 lo σ=some (.dat (.list (cs.map PyData.int)),σ):=(Mp hx).trans (Mp rfl)
 refine wpAny_Assign_Name (ListComp_rowsP (S.all nofun nofun) (S.all nofun nofun) S.kind (S.all (p:=fun y=>y.2= .local→sc.names.lookup y.1=some .local) (fun _=>by rw[S.names];rfl) fun _=>S.look) S.look
  (Kn (Z:=ZL C env d mg mb) (a:=eNm 0) (Zyy (Z:=ZL C env d mg mb) ⟨X,N⟩ h3).s ev rfl A s ρ _ _ (v.pre rm) fun ρ1 s1 G I hh fp Pp St P1 k1 T=> ?_) fun _=>rfl) (Jm N c.2.1)
 have w1:=v.ext k1 P1.r;have hP:∀i v,Pp i v→∃c t,cs[i]? =some c∧v=Value.int (C.ν c) t:=fun i v hp=>(T.items i v hp).elim fun dd e=>by
  have e1:=e.1;rw[List.getElem?_map] at e1;exact Mo e1 fun c e3 e4=>by
   rw[← e4] at e;exact e.2.elim fun t e5=>⟨c,t,e3,e5⟩
 refine⟨fun _=>true,fun v y=>∃a t u,v=Value.int a t∧y=Value.int (a.fmod 1000000007) u,I,fp,[I],(cs.map PyData.int).length,Pp,St,rfl,T.walks,by rw[List.length_map,sizeLine_eq];exact Nat.le_trans hz (by decide),T.st,T.lt,Jz (by decide) S (fun i v hp=>(hP i v hp).elim fun c z=>z.elim fun t z=>⟨_,t,z.2⟩),fun D h' tk ys us hD hl hpl hlen hPj hF hk=> ?_⟩;rw[List.filter_eq_self.mpr (fun _ _=>rfl)] at hF;have il:=Si (ν:=C.ν) (cs:=cs) (by rw[hlen,List.length_map]) (fun j v e=>hP j v (hPj j v e)) hF;have keep:∀b o,s1.heap.get? b=some o→h'.get? b=some o:=fun b o g=>hk b o (fun z=>by rw[List.mem_singleton.mp z,T.new] at g;exact nn g) (T.keep b o g);have w2:LI C σ ρ1 env lo P cv s₁ {s1 with heap:=h',toks:=tk}:=w1.grow keep rfl;have hD1:s1.heap.get? D=none:=by
  cases q1:s1.heap.get? D with
  |none=>rfl
  |some o=>rw[T.keep _ _ q1] at hD;exact nn hD.symm
 have nD:∀{b o},s1.heap.get? b=some o→D≠b:=fun g e=>by rw[← e,hD1] at g;exact nn g
 exact hpl.elim fun n hpl=>w1.F.ns.elim fun m hm=>hm.elim fun oL hm=>hm.elim fun es hm=>hm.elim fun ep hm=>w1.cell.elim fun oc hc=>
  wpAny_storeName_cell N.kind c.2.1 hcl w2.cell fun h'' hc' sb=>q ρ1 _ D ys n il ((w2.add hpl (nD hm.1) (nD hc.1) (P1.r.fresh hD1)).setCell (tk:=tk) hc' sb)
end
end Mine
namespace Mine
open PySem PySem.W
set_option genInjectivity false
set_option genSizeOf false
noncomputable def Yag:IE:= .tup [(.call 18 70 [(.nm 2)]),(.call 18 70 [(.nm 2)])]
noncomputable def Zfy:IE:= .tup [(.call 29 69 [(.nm 2),(.nm 6),(.nm 7)]),(.call 29 69 [(.nm 2),(.nm 6),(.nm 7)])]
noncomputable def Kx:List IS:=[(.asg 3 (.call 19 82 [(.nm 2),(.c (.int 1))])),(.ife (.bop .Or [(.not (.call 20 75 [(.nm 2),(.c (.int 1)),(.c (.int 2)),(.c (.int 0)),(.c (.int 44))])),(.not (.call 21 73 [(.nm 2)])),(.not (.call 22 84 [(.nm 2),(.nm 3),(.c (.int 0))]))]) [(.ret (.c (.bool false)))] []),(.ife (.bop .Or [(.not (.call 23 76 [(.nm 2),(.c (.int 1)),(.c (.int 2)),(.c (.int 1)),(.c (.int 0))])),(.not (.call 21 73 [(.nm 2)]))]) [(.ret (.c (.bool false)))] []),(.ife (.bop .Or [(.cmp .NotEq (.call 24 71 [(.nm 2),(.c (.int 1))]) (.tup [(.lst [(.c (.int 5)),(.c (.int 0)),(.c (.int 0)),(.c (.int 0))]),(.c (.int 1))])),(.cmp .NotEq (.sub (.sub (.wk (.nm 2) .objs) (.c (.int 1))) (.gl 25 89)) (.c (.int 3)))]) [(.ret (.c (.bool false)))] [])]
noncomputable def Wf:List IS:=[(.ife (.cmp .Gt (.nm 5) (.c (.int 0))) [(.asg 7 (.ite (.cmp .Lt (.nm 5) (.c (.int 5))) (.c (.int 4)) (.c (.int 8))))] [])]
noncomputable def Yal:List IS:=[.ret (.c (.bool true))]
noncomputable def WA:Wd:=⟨2,.tuple [],1,[],1,[],[],1⟩
noncomputable def cfM (old:Nat→Option O):Nat→List V→St→Res:=U2 (Tk [] old) Wn 12
noncomputable def loM (u:V):Zd:=[some u,some (.loc (.id 2)),some (.loc .w),none,none,none,none,none,none]
noncomputable def Zn2 (old:Nat→Option O) (u:V):Res:=(kE (Tk [] old) (cfM old) 2 Yag).1 (loM u) ⟨247,247,[],some WA⟩
noncomputable def Yid (old:Nat→Option O) (u:V):Wz:=bD (Zn2 old u) fun d σ=>ob σ.w fun w=>kSs (Tk [] old) (cfM old) 2 Kx (loM u) {σ with w:=some {w with pair:=d}}
noncomputable def Znv (r:Wz):Option V:=rn r fun lo σ=>ob (isW lo 2) fun _=>gd (Nat.beq σ.base 247&&(Nat.beq σ.next 247&&σ.tmp.isEmpty)) (ob σ.w fun W=>gd (Nat.beq W.sid 2&&(Nat.ble W.bnd 1000&&Q4 W.pair)) (ob lo[0]? fun x=>x))
theorem Zh2(old:Nat→Option O)(u:V):Znv (Yid old u)=some u:=by kernel_rfl
noncomputable def wB (pr:D):Wd:=⟨2,pr,uk 5,[],uk 6,[],[],0⟩
noncomputable def loN (c room:Nat):Zd:=[none,none,some (.loc .w),none,none,some (.dat (.int (c:Int))),some (.dat (.list ((xsC c).map PyData.int))),some (.dat (.int (room:Int))),none]
noncomputable def F9 (old:Nat→Option O) (pr:D) (c room:Nat):Res:=(kE (Tk [] old) (cfM old) 2 Zfy).1 (loN c room) ⟨247,247,[],some (wB pr)⟩
noncomputable def H5 (r:Res):Option Unit:=bD r fun d σ=>gd (Nat.beq σ.base 247&&(Nat.beq σ.next 247&&σ.tmp.isEmpty)) (ob σ.w fun W=>L6 {W with pair:=d})
theorem Bq(old:Nat→Option O)(pr:D):H5 (F9 old pr 0 0)=some ():=by kernel_rfl
theorem Br(old:Nat→Option O)(pr:D):H5 (F9 old pr 0 4)=some ():=by kernel_rfl
theorem Bs(old:Nat→Option O)(pr:D):H5 (F9 old pr 1 4)=some ():=by kernel_rfl
theorem Bt(old:Nat→Option O)(pr:D):H5 (F9 old pr 2 4)=some ():=by kernel_rfl
theorem Bu(old:Nat→Option O)(pr:D):H5 (F9 old pr 3 4)=some ():=by kernel_rfl
theorem Bv(old:Nat→Option O)(pr:D):H5 (F9 old pr 4 4)=some ():=by kernel_rfl
theorem Bw(old:Nat→Option O)(pr:D):H5 (F9 old pr 8 8)=some ():=by kernel_rfl
end Mine
namespace Mine
open PySem PySem.W PySem.Calls PyProof.Rows PySem.SeqAt
set_option genInjectivity false
noncomputable def isInt (i:Int) (e:Expr):Bool:=R9 e fun c _ _=>kCi c fun j=>decide (j=i)
noncomputable def R7 (e:Expr):Bool:=kNm e fun x _=>Zs x "nums"
noncomputable def Zg4 (e:Expr):Bool:=Uk e fun a b _=>R7 a&&isInt 0 b
section
variable{M:Expr→Prop}{e:Expr}
@[elab_as_elim] theorem Wa {i:Int} (h:isInt i e=true) (f:∀k p,M (.Constant (.int i) k p)):M e:=Xh h fun c k p h=>Pl (M:=fun c=>M (.Constant c k p)) h fun j h=>of_decide_eq_true h ▸ f k p
@[elab_as_elim] theorem Uj (h:R7 e=true) (f:∀p,M (.Name "nums" p)):M e:=Y2 h fun x p h=>strB_iff.mp h ▸ f p
@[elab_as_elim] theorem Fu (h:Zg4 e=true) (f:∀p k p1 p2,M (.Subscript (.Name "nums" p) (.Constant (.int 0) k p1) p2)):M e:=We h fun a b p2 h=>Uj (M:=fun a=>M (.Subscript a b p2)) (a2 h).1 fun p=>Wa (M:=fun b=>M (.Subscript (.Name "nums" p) b p2)) (a2 h).2 fun k p1=>f p k p1 p2
end
structure NumsOk(env:Env)(P:Addr→Obj→Prop)(D:Addr)(items:Array Value)(n:Nat)(nl:List Int):Prop where
 k:env.kindOf ("nums":Str)=some .cell
 c:env.cells.lookup ("nums":Str)=some (env.locals + 1)
 p:P D {cls:= .type "list",data:= .seq items n}
 i:IntsAre items.toList nl
theorem Ng:(("nums":Str) == ("__debug__":Str))=false:=by decide +kernel
section
variable{C:Cx}{σ:St}{ρ:Rho}{env:Env}{lo lo1:Zd}{P:Addr→Obj→Prop}{cv:Option Value}{s₁ s:Shared}{d:Nat}{mg mb:Str→Option Value}{A:Around}
variable{D:Addr}{items:Array Value}{n:Nat}{nl:List Int}
theorem NumsOk.list(H:NumsOk env P D items n nl)(v:LI C σ ρ env lo P (some (.ref D)) s₁ s):s.heap.IsList D items:=Heap.PlainList.isList ⟨n,(v.p D _ H.p).1⟩
theorem NumsOk.sz(H:NumsOk env P D items n nl):items.size=nl.length:=(Array.length_toList (xs:=items)).symm.trans H.i.length
theorem Vn(N:Yd C tL env)(H:NumsOk env P D items n nl)(hc:s.heap.IsCell (env.locals + 1) (some (.ref D))){p:Pos}{Q:Value→Shared→Prop}{E:Value→Shared→Prop}(q:Q (.ref D) s):wpAny (model C.prog C.wld) A (eval (.Name "nums" p) env) Q E s:=wpAny_Name (wpAny_loadName_cell N.kind H.k H.c hc q) Ng
theorem Zh4(H:NumsOk env P D items n nl){n0:Int}(h0:nl[0]? =some n0)(hl:s.heap.IsList D items){e1 e2:Expr}(hp:Z1 e2=true){t':Tok}{Q:Value→Shared→Prop}{E:Value→Shared→Prop}(q:∀t,Q (.int n0 t) s):wpAny (model C.prog C.wld) A (subscriptTail e1 e2 (.ref D) (.int 0 t')) Q E s:=
 (H.i.get 0 n0 h0).elim fun t e=>Xg hp hl (by decide) (by decide) e (q t)
theorem Zta(N:Yd C tL env)(H:NumsOk env P D items n nl)(v:LI C σ ρ env lo P (some (.ref D)) s₁ s){e:Expr}(h:Zg4 e=true){n0:Int}(h0:nl[0]? =some n0){Q:Value→Shared→Prop}{E:Value→Shared→Prop}(q:∀t tk,Q (.int n0 t) {s with toks:=tk}):wpAny (model C.prog C.wld) A (eval e env) Q E s:=
 Fu (M:=fun e=>wpAny (model C.prog C.wld) A (eval e env) Q E s) h fun p k p1 p2=>Subscript_ (Vn N H v.cell (wpAny_Constant_int (Zh4 (s:={s with toks:=s.toks + 1}) H h0 (H.list (v.toks _)) rfl fun t=>q t _)))
noncomputable def Kl (e:Expr):Bool:=Zga e fun a os bs _=>Yt os fun o=>Yt bs fun z=>Pk a fun f as kw _=>X4 kw (kNm f fun f _=>Yt as fun a=>decide (o= .Gt)&&(okN tL .globalImplicit 26 f&&(Zs (Y9 .len) f&&(R7 a&&isInt 0 z))))
theorem Hm{e:Expr}(h:Kl e=true){M:Expr→Prop}(f:∀x pf pa pc k pz p,okN tL .globalImplicit 26 x=true→Zs (Y9 .len) x=true→M (.Compare (.Call (.Name x pf) [.Name "nums" pa] [] pc) [.Gt] [.Constant (.int 0) k pz] p)):M e:=
 Fy h fun a os bs p h=>Zw (M:=fun os=>M (.Compare a os bs p)) h fun o h=>Zw (M:=fun bs=>M (.Compare a [o] bs p)) h fun z h=>U1 (M:=fun a=>M (.Compare a [o] [z] p)) h fun g as kw pc h=>Zt (M:=fun kw=>M (.Compare (.Call g as kw pc) [o] [z] p)) h fun h=>
 Y2 (M:=fun g=>M (.Compare (.Call g as [] pc) [o] [z] p)) h fun x pf h=>Zw (M:=fun as=>M (.Compare (.Call (.Name x pf) as [] pc) [o] [z] p)) h fun a h=>T2 h fun h1 h2 h3 h4 h5=>of_decide_eq_true h1 ▸ Uj (M:=fun a=>M (.Compare (.Call (.Name x pf) [a] [] pc) [.Gt] [z] p)) h4 fun pa=>
 Wa (M:=fun z=>M (.Compare (.Call (.Name x pf) [.Name "nums" pa] [] pc) [.Gt] [z] p)) h5 fun k pz=>f x pf pa pc k pz p h2 h3
theorem Za9(X:Vr C mg mb)(N:Yd C tL env)(H:NumsOk env P D items n nl)(hn:nl.length≤1000)(v:LI C σ ρ env lo P (some (.ref D)) s₁ s){e:Expr}(h:Kl e=true){Q:Bool→Shared→Prop}{E:Value→Shared→Prop}
 (q:∀tk,Q (decide (0 < nl.length)) {s with toks:=tk}) {whole:Sem Value}:wpAny (model C.prog C.wld) A (isTrue e env whole) Q E s:=Hm (M:=fun e=>wpAny (model C.prog C.wld) A (isTrue e env whole) Q E s) h fun x pf pa pc k pz p h1 h2=>by
 have o:=Ym N h1;refine wpAny_isTrue_Compare1 (Call_ (Qa (Z:=ZL C env 0 mg mb) (b:= .len) ⟨X,N⟩ h2 o.2.1 o.2.2 v.r.fr (callWith_builtin1 (args_cons (Vn N H v.cell (args_nil ?_)) rfl) rfl))) rfl;refine PyProof.Rows.len_list (H.list v) (by rw[H.sz];omega) (wpAny_Constant_int (gt_int (wpAny_truthy_bool ?_)));rw[H.sz,show decide ((0:Int) < (nl.length:Int))=decide (0 < nl.length) from decide_eq_decide.mpr (Int.ofNat_lt (n:=0))];exact q _
end
noncomputable def Hk:IE:= .tup [.c (.int 0),.c (.int 1),.c (.int 2),.c (.int 3),.c (.int 4),.c (.int 8)]
noncomputable def Cn (st:Stmt):Bool:=Sb st fun xs v _=>Yt xs fun x=>kNm x fun x _=>Uk v fun tup b _=>Pj b fun c o six _=>Pk c fun f as kw _=>X4 kw (kNm f fun f _=>Yt as fun a=>okN tL .local 5 x&&(okE tL Hk tup&&(okN tL .globalImplicit 27 f&&(Zs f "sum"&&(R7 a&&(isInt 6 six&&decide (o= .Mod)))))))
noncomputable def Cr (st:Stmt):Bool:=Sb st fun xs v _=>Yt xs fun x=>kNm x fun x _=>Pj v fun four o b _=>Pj b fun n0 o2 two _=>okN tL .local 7 x&&(isInt 4 four&&(Zg4 n0&&(isInt 2 two&&(decide (o= .Mult)&&decide (o2= .Mod)))))
theorem Co{st:Stmt}(h:Cn st=true){M:Stmt→Prop}(f:∀x px tup pf pa pc k p6 pb ps pA,okN tL .local 5 x=true→okE tL Hk tup=true→okN tL .globalImplicit 27 "sum"=true→M (.Assign [.Name x px] (.Subscript tup (.BinOp (.Call (.Name "sum" pf) [.Name "nums" pa] [] pc) .Mod (.Constant (.int 6) k p6) pb) ps) pA)):M st:=
 Wb h fun xs v pA h=>Zw (M:=fun xs=>M (.Assign xs v pA)) h fun x h=>Y2 (M:=fun x=>M (.Assign [x] v pA)) h fun x px h=>We (M:=fun v=>M (.Assign [.Name x px] v pA)) h fun tup b ps h=>Wv (M:=fun b=>M (.Assign [.Name x px] (.Subscript tup b ps) pA)) h fun c o six pb h=>
 U1 (M:=fun c=>M (.Assign [.Name x px] (.Subscript tup (.BinOp c o six pb) ps) pA)) h fun g as kw pc h=>Zt (M:=fun kw=>M (.Assign [.Name x px] (.Subscript tup (.BinOp (.Call g as kw pc) o six pb) ps) pA)) h fun h=>Y2 (M:=fun g=>M (.Assign [.Name x px] (.Subscript tup (.BinOp (.Call g as [] pc) o six pb) ps) pA)) h fun y pf h=>
 Zw (M:=fun as=>M (.Assign [.Name x px] (.Subscript tup (.BinOp (.Call (.Name y pf) as [] pc) o six pb) ps) pA)) h fun a h=>Xy h fun h1 h2 h=>T1 h fun h3 h4 h5 h=>by
  rw[strB_iff.mp h4] at h3 ⊢;rw[of_decide_eq_true (a2 h).2];exact Uj (M:=fun a=>M (.Assign [.Name x px] (.Subscript tup (.BinOp (.Call (.Name "sum" pf) [a] [] pc) .Mod six pb) ps) pA)) h5 fun pa=>Wa (M:=fun six=>M (.Assign [.Name x px] (.Subscript tup (.BinOp (.Call (.Name "sum" pf) [.Name "nums" pa] [] pc) .Mod six pb) ps) pA)) (a2 h).1 fun k p6=>f x px tup pf pa pc k p6 pb ps pA h1 h2 h3
theorem Cs{st:Stmt}(h:Cr st=true){M:Stmt→Prop}(f:∀x px k4 p4 n0 k2 p2 pb2 pb pA,okN tL .local 7 x=true→Zg4 n0=true→M (.Assign [.Name x px] (.BinOp (.Constant (.int 4) k4 p4) .Mult (.BinOp n0 .Mod (.Constant (.int 2) k2 p2) pb2) pb) pA)):M st:=
 Wb h fun xs v pA h=>Zw (M:=fun xs=>M (.Assign xs v pA)) h fun x h=>Y2 (M:=fun x=>M (.Assign [x] v pA)) h fun x px h=>Wv (M:=fun v=>M (.Assign [.Name x px] v pA)) h fun four o b pb h=>Wv (M:=fun b=>M (.Assign [.Name x px] (.BinOp four o b pb) pA)) h fun n0 o2 two pb2 h=>
 Xy h fun h1 h2 h=>T1 h fun h3 h4 h5 h6=>by
  rw[of_decide_eq_true h5,of_decide_eq_true h6];exact Wa (M:=fun four=>M (.Assign [.Name x px] (.BinOp four .Mult (.BinOp n0 .Mod two pb2) pb) pA)) h2 fun k4 p4=>Wa (M:=fun two=>M (.Assign [.Name x px] (.BinOp (.Constant (.int 4) k4 p4) .Mult (.BinOp n0 .Mod two pb2) pb) pA)) h4 fun k2 p2=>f x px k4 p4 n0 k2 p2 pb2 pb pA h1 h3
def Zdk(c:Nat):Prop:=c∈[0,1,2,3,4,8]
section
variable{C:Cx}{σ:St}{ρ:Rho}{env:Env}{lo lo1:Zd}{P:Addr→Obj→Prop}{cv:Option Value}{s₁ s:Shared}{d:Nat}{mg mb:Str→Option Value}{A:Around}{cf:Nat→List V→St→Res}
variable{D:Addr}{items:Array Value}{n:Nat}{nl:List Int}
theorem Zpl(T:Tb)(cf:Nat→List V→St→Res)(lo:Zd)(σ:St):(kE T cf 2 Hk).1 lo σ=some (.dat (.tuple [.int 0,.int 1,.int 2,.int 3,.int 4,.int 8]),σ):=by kernel_rfl
theorem Zad(T:Tb)(σ:St){k:Nat}(h:k < 6):∃c:Nat,Zdk c∧Qw T σ (.dat (.tuple [.int 0,.int 1,.int 2,.int 3,.int 4,.int 8])) (.dat (.int k))=some (.dat (.int (c:Int))):=
 Xp (n:=6) (p:=fun k=>∃c:Nat,Zdk c∧Qw T σ (.dat (.tuple [.int 0,.int 1,.int 2,.int 3,.int 4,.int 8])) (.dat (.int k))=some (.dat (.int (c:Int))))
  ⟨⟨⟨⟨⟨⟨trivial,0,.head _,rfl⟩,1,.tail _ (.head _),rfl⟩,2,.tail _ (.tail _ (.head _)),rfl⟩,3,.tail _ (.tail _ (.tail _ (.head _))),rfl⟩,4,.tail _ (.tail _ (.tail _ (.tail _ (.head _)))),rfl⟩,8,.tail _ (.tail _ (.tail _ (.tail _ (.tail _ (.head _))))),rfl⟩ h
theorem Om{j:Nat}{u:V}(h:j < lo.length):Yv j u lo=some (Z7 lo j (some u)):=Zsf (Wt h)
theorem An(X:Vr C mg mb)(hmg:mg "sum"=none)(hmb:mb "sum"=some (.builtin "sum"))(N:Yd C tL env)(hcf:SoundCF C d cf)(H:NumsOk env P D items n nl)(v:LI C σ ρ env lo P (some (.ref D)) s₁ s){st:Stmt}(h:Cn st=true)
 (Q:Flow→Shared→Prop) (E:Value→Shared→Prop) (rm:Room A d) (q:∀ρ' s' (c:Nat),Zdk c→LI C σ ρ' env (Z7 lo 5 (some (.dat (.int (c:Int))))) P (some (.ref D)) s₁ s'→Q .next s') (hl:5 < lo.length):
 wpAny (model C.prog C.wld) A (exec st env) Q E s:=Co (M:=fun st=>wpAny (model C.prog C.wld) A (exec st env) Q E s) h fun x px tup pf pa pc k p6 pb ps pA h1 h2 h3=>by
 have o:=Ym N h3;refine wpAny_Assign_Name (Subscript_ ((Mz (Z:=ZL C env d mg mb) ⟨X,N⟩ hcf 2 Hk tup h2).s.s lo σ _ σ (Zpl C.T cf lo σ) A s ρ _ _ (v.pre rm) fun ρ1 s1 u P1 k1 v1=> ?_)) rfl;have w1:=v.ext k1 P1.r;refine wpAny_BinOp (Call_ (Name_function_global N.kind o.2.1 (loadGlobal_builtin (by rw[N.glo];exact X.nsG _ P1.r.fr) hmg (by rw[N.blt];exact X.nsB _ P1.r.fr) hmb (callWith_builtin1 (args_cons (Vn N H w1.cell (args_nil ?_)) rfl) rfl)) o.2.2));have ai:AllInts items:=H.i.allInts;obtain⟨xs,rfl⟩:=ai.items;refine sum_intListG rm.1 (H.list w1) fun h' tk t' hk=>wpAny_Constant_int (mod_int (by decide) ?_);generalize preSum (numAt xs) xs.size=T;have b1:=X9 T (m:=6) (by decide);refine(Int.eq_ofNat_of_zero_le b1.1).elim fun j hj=>(Zad C.T σ (k:=j) (Int.ofNat_lt.mp (hj ▸ b1.2))).elim fun c z=> ?_;have hv:C.ν (j:Int)=(j:Int):=Yu X.v0 (Nat.le_trans (Nat.le_of_lt (Int.ofNat_lt.mp (hj ▸ b1.2))) (by decide));rw[show T.fmod 6=(j:Int) from hj];have e1:Ext C σ ρ1 s1 σ ρ1 {s1 with heap:=h',toks:=tk + 1 + 1}:= .grow hk rfl;have w2:LI C σ ρ1 env lo P (some (.ref D)) s₁ {s1 with heap:=h',toks:=tk + 1 + 1}:=w1.grow hk rfl;refine Er (Z:=ZL C env d mg mb) ⟨X,N⟩ (lo:=lo) z.2 _ (.BinOp (.Call (.Name "sum" pf) [.Name "nums" pa] [] pc) .Mod (.Constant (.int 6) k p6) pb) rfl A {s1 with heap:=h',toks:=tk + 1 + 1} ρ1 u _ _ _ (w2.pre rm) (v1.ext e1) ⟨tk + 1,congrArg (fun i=>Value.int i (tk + 1)) hv.symm⟩ fun ρ2 s3 y P3 k3 v3=> ?_;exact(w2.ext k3 P3.r).bind X N rm h1 v3 (Om hl) fun s4 w4=>q ρ2 s4 c z.1 w4
theorem Ap(X:Vr C mg mb)(N:Yd C tL env)(H:NumsOk env P D items n nl){n0:Int}(h0:nl[0]? =some n0)(v:LI C σ ρ env lo P (some (.ref D)) s₁ s){st:Stmt}(h:Cr st=true)
 (Q:Flow→Shared→Prop) (E:Value→Shared→Prop) (rm:Room A d) (q:∀ρ' s' (c:Nat),(c=0∨c=4)→LI C σ ρ' env (Z7 lo 7 (some (.dat (.int (c:Int))))) P (some (.ref D)) s₁ s'→Q .next s') (hl:7 < lo.length):
 wpAny (model C.prog C.wld) A (exec st env) Q E s:=Cs (M:=fun st=>wpAny (model C.prog C.wld) A (exec st env) Q E s) h fun x px k4 p4 e0 k2 p2 pb2 pb pA h1 h2=>by
 refine wpAny_Assign_Name (wpAny_BinOp (wpAny_Constant_int (wpAny_BinOp (Zta N H (v.toks _) h2 h0 fun t tk=>wpAny_Constant_int (mod_int (by decide) (mul_int ?_ (Zh3 rfl))))))) rfl;have b1:=X9 n0 (m:=2) (by decide);refine(Int.eq_ofNat_of_zero_le b1.1).elim fun j hj=> ?_;have hc:∃c:Nat,(c=0∨c=4)∧4 * n0.fmod 2=(c:Int):=by
  rw[show n0.fmod 2=(j:Int) from hj];exact Xp (n:=2) (p:=fun j=>∃c:Nat,(c=0∨c=4)∧4 * (j:Int)=(c:Int)) ⟨⟨trivial,0,.inl rfl,rfl⟩,4,.inr rfl,rfl⟩ (Int.ofNat_lt.mp (hj ▸ b1.2))
 refine hc.elim fun c z=> ?_;rw[z.2];exact(v.toks _).bind X N rm h1 (u:= .dat (.int (c:Int))) ⟨_,congrArg (fun i=>Value.int i _) (Yu X.v0 (z.1.elim (fun e=>e ▸ by decide) fun e=>e ▸ by decide)).symm⟩ (Om hl) fun s4 w4=>q ρ s4 c z.1 w4
end
noncomputable def Ck:IE:= .bi 28 .range (.nm 5)
noncomputable def Gv:List (Str×NameKind):=[((".0":Str),NameKind.local),(("k":Str),NameKind.local),(("nums":Str),NameKind.free)]
noncomputable def scB (sc:Scope):Bool:=decide (sc.kind= .function)&&decide (sc.names=Gv)
noncomputable def Cp (st:Stmt):Bool:=Sb st fun xs v _=>Yt xs fun x=>kNm x fun x px=>kLC v fun elt gs sc p=>Yt gs fun g=>Pj elt fun a o1 one _=>Pj a fun a o2 nine2 _=>Pj a fun n0 o3 b _=>Pj b fun nine o4 k _=>kNm k fun k _=>kNm g.target fun z _=>
 decide (g.is_async=0)&&(g.ifs.isEmpty&&(okN tL .local 6 x&&(Zg4 n0&&(isInt 9 nine&&(Zs k "k"&&(Zs z "k"&&(isInt 9 nine2&&(isInt 1 one&&(okE tL Ck g.iter&&(scB sc&&(decide (o1= .Add)&&(decide (o2= .Mod)&&(decide (o3= .FloorDiv)&&(decide (o4= .Pow)&&(px.line == p.line&& !(sc.names.any fun a=>a.1 == x&&(a.2 == .local || a.2 == .cell)))))))))))))))))
theorem Cq{st:Stmt}(h:Cp st=true){M:Stmt→Prop}(f:∀x px q0 k0 q1 q2 k9 p9 pk p1 p2 k8 p8 p3 kk p0 p4 pz it sc p pA,okN tL .local 6 x=true→okE tL Ck it=true→sc.kind= .function→sc.names=Gv→(px.line == p.line&& !(sc.names.any fun a=>a.1 == x&&(a.2 == .local || a.2 == .cell)))=true→
 M (.Assign [.Name x px] (.ListComp (.BinOp (.BinOp (.BinOp (.Subscript (.Name "nums" q0) (.Constant (.int 0) k0 q1) q2) .FloorDiv (.BinOp (.Constant (.int 9) k9 p9) .Pow (.Name "k" pk) p1) p2) .Mod (.Constant (.int 9) k8 p8) p3) .Add (.Constant (.int 1) kk p0) p4) [⟨.Name "k" pz,it,[],0⟩] sc p) pA)):M st:=
 Wb h fun xs v pA h=>Zw (M:=fun xs=>M (.Assign xs v pA)) h fun x h=>Y2 (M:=fun x=>M (.Assign [x] v pA)) h fun x px h=>Zgh (M:=fun v=>M (.Assign [.Name x px] v pA)) h fun elt gs sc p h=>Zw (M:=fun gs=>M (.Assign [.Name x px] (.ListComp elt gs sc p) pA)) h fun g h=>by
  obtain⟨tg,it,ifs,as⟩:=g;refine Wv (M:=fun elt=>M (.Assign [.Name x px] (.ListComp elt [⟨tg,it,ifs,as⟩] sc p) pA)) h fun a o1 one p4 h=>Wv (M:=fun a=>M (.Assign [.Name x px] (.ListComp (.BinOp a o1 one p4) [⟨tg,it,ifs,as⟩] sc p) pA)) h fun a o2 nine2 p3 h=>Wv (M:=fun a=>M (.Assign [.Name x px] (.ListComp (.BinOp (.BinOp a o2 nine2 p3) o1 one p4) [⟨tg,it,ifs,as⟩] sc p) pA)) h fun n0 o3 b p2 h=> ?_;refine Wv (M:=fun b=>M (.Assign [.Name x px] (.ListComp (.BinOp (.BinOp (.BinOp n0 o3 b p2) o2 nine2 p3) o1 one p4) [⟨tg,it,ifs,as⟩] sc p) pA)) h fun nine o4 k p1 h=>Y2 (M:=fun k=>M (.Assign [.Name x px] (.ListComp (.BinOp (.BinOp (.BinOp n0 o3 (.BinOp nine o4 k p1) p2) o2 nine2 p3) o1 one p4) [⟨tg,it,ifs,as⟩] sc p) pA)) h fun k pk h=> ?_;refine Y2 (M:=fun tg=>M (.Assign [.Name x px] (.ListComp (.BinOp (.BinOp (.BinOp n0 o3 (.BinOp nine o4 (.Name k pk) p1) p2) o2 nine2 p3) o1 one p4) [⟨tg,it,ifs,as⟩] sc p) pA)) h fun z pz h=>T2 h fun g1 g2 g3 g4 h=>T2 h fun g5 g6 g7 g8 h=>T2 h fun g9 g10 g11 g12 h=>Xy h fun g13 g14 g15=> ?_;rw[show as=0 from of_decide_eq_true g1,show ifs=[] from List.isEmpty_iff.mp g2,strB_iff.mp g6,strB_iff.mp g7,of_decide_eq_true g12,of_decide_eq_true g13,of_decide_eq_true g14,of_decide_eq_true (a2 g15).1];refine Fu (M:=fun n0=>M (.Assign [.Name x px] (.ListComp (.BinOp (.BinOp (.BinOp n0 .FloorDiv (.BinOp nine .Pow (.Name "k" pk) p1) p2) .Mod nine2 p3) .Add one p4) [⟨.Name "k" pz,it,[],0⟩] sc p) pA)) g4 fun q0 k0 q1 q2=>Wa (M:=fun nine=>M (.Assign [.Name x px] (.ListComp (.BinOp (.BinOp (.BinOp _ .FloorDiv (.BinOp nine .Pow (.Name "k" pk) p1) p2) .Mod nine2 p3) .Add one p4) [⟨.Name "k" pz,it,[],0⟩] sc p) pA)) g5 fun k9 p9=> ?_;exact Wa (M:=fun nine2=>M (.Assign [.Name x px] (.ListComp (.BinOp (.BinOp _ .Mod nine2 p3) .Add one p4) [⟨.Name "k" pz,it,[],0⟩] sc p) pA)) g8 fun k8 p8=>Wa (M:=fun one=>M (.Assign [.Name x px] (.ListComp (.BinOp _ .Add one p4) [⟨.Name "k" pz,it,[],0⟩] sc p) pA)) g9 fun kk p0=>f x px q0 k0 q1 q2 k9 p9 pk p1 p2 k8 p8 p3 kk p0 p4 pz it sc p pA g3 g10 (of_decide_eq_true (a2 g11).1) (of_decide_eq_true (a2 g11).2) (a2 g15).2
noncomputable def elK (n0:Int) (k:Nat):Int:=(n0.fdiv (9 ^ k)).fmod 9 + 1
def ElF(n0:Int)(v y:Value):Prop:=∃(k:Nat) (t u:Tok),v=Value.int (k:Int) t∧y=Value.int (elK n0 k) u
theorem Sj{n0:Int}:∀{n m:Nat} {vs ys:List Value},vs.length=m→(∀(j:Nat) (v:Value),vs[j]? =some v→∃t,v=Value.int ((n + j:Nat):Int) t)→Paired (ElF n0) vs ys→IntsAre ys ((List.range' n m).map (elK n0))
 |n,0,[],ys,_,_,h=>by cases h;exact .nil
 |n,0,_::_,ys,e,_,h=>nomatch e
 |n,m + 1,[],ys,e,_,h=>nomatch e
 |n,m + 1,v::vs,ys,e,hv,h=>by
  cases h with
  |cons hF ht=>
   refine hF.elim fun k z=>z.elim fun t z=>z.elim fun u z=>(hv 0 _ rfl).elim fun t' e1=> ?_;have e1:k=n:=Int.ofNat.inj (Value.int.inj (z.1.symm.trans e1)).1;rw[List.range'_succ,List.map_cons,z.2,e1];exact .cons _ u (Sj (n:=n + 1) (m:=m) (Nat.succ.inj e) (fun j v h=>(hv (j + 1) v h).imp fun t e=>e.trans (by rw[Nat.succ_add_eq_add_succ])) ht)
theorem El{p:Str×NameKind→Prop}{sc:Scope}(hs:sc.names=Gv)(a:p ((".0":Str),.local))(b:p (("k":Str),.local))(c:p (("nums":Str),.free)):∀y∈sc.names,p y:=by
 rw[hs];exact fun y hy=>(List.mem_cons.mp hy).elim (fun e=>e ▸ a) fun hy=>(List.mem_cons.mp hy).elim (fun e=>e ▸ b) fun hy=>List.mem_singleton.mp hy ▸ c
theorem Zgm:List.lookup ("k":Str) Gv=some NameKind.local:=by decide +kernel
theorem Dv:List.lookup (".0":Str) Gv=some NameKind.local:=by decide +kernel
section
variable{env:Env}
theorem Dj{sc:Scope}(hs:sc.names=Gv){c:Addr}(hc:env.cells.lookup ("nums":Str)=some c):closureFor sc env=pure [(("nums":Str),c)]:=by
 unfold closureFor;rw[hs];have:cellOf env ("nums":Str)=pure c:=by unfold cellOf;rw[hc]
 simp[Gv,this]
theorem Kw{sc:Scope}(hs:sc.names=Gv)(h1:env.scope.kind= .function)(h2:env.kindOf ("nums":Str)=some .cell)(cl:List (Str×Addr))(K:Addr):(compEnvC sc cl K env).kindOf ("nums":Str)=some .cell∧(compEnvC sc cl K env).kindOf ("k":Str)=some .local:=by
 have e:(relabel sc env).names=[((".0":Str),NameKind.local),(("k":Str),NameKind.local),(("nums":Str),NameKind.cell)]:=by
  unfold relabel;rw[hs];show [_,_,(if(NameKind.free == NameKind.free&&env.scope.kind == .function&&env.kindOf ("nums":Str) == some .cell)=true then _ else _)]=_;rw[h1,h2];rfl
 constructor
 ·show(relabel sc env).names.lookup _=_
  rw[e];decide +kernel
 ·show(relabel sc env).names.lookup _=_
  rw[e];decide +kernel
end
section
variable{C:Cx}{σ:St}{ρ:Rho}{env:Env}{lo lo1:Zd}{P:Addr→Obj→Prop}{cv:Option Value}{s₁ s:Shared}{d:Nat}{mg mb:Str→Option Value}{A:Around}{cf:Nat→List V→St→Res}
variable{D:Addr}{items:Array Value}{n:Nat}{nl:List Int}
theorem Yin{i:Nat}(h:i < 10):((9:Int) ^ i).natAbs≤387420489:=by
 rw[Int.natAbs_pow];exact Nat.le_trans (Nat.pow_le_pow_right (by decide) (Nat.le_of_lt_succ h)) (by decide)
theorem Gg(N:Yd C tL env)(H:NumsOk env P D items n nl){n0:Int}(h0:nl[0]? =some n0){sc:Scope}(hk:sc.kind= .function)(hs:sc.names=Gv)
 {q0 q1 q2 p9 pk p1 p2 p8 p3 p0 p4:Pos} {k0 k9 k8 kk:Nat} {wr:List Addr} {Pp:Nat→Value→Prop} {s₂:Shared}
 (hcell:∃o,s₂.heap.get? (env.locals + 1)=some o∧o.data= .cell (some (.ref D))) (hcw:env.locals + 1 ∉ wr) (hD:s₂.heap.get? D=some {cls:= .type "list",data:= .seq items n}) (hDw:D ∉ wr)
 (hP:∀i v,Pp i v→i < 10∧∃t,v=Value.int ((i:Nat):Int) t):
 QuietOnC C.prog C.wld A env sc [(("nums":Str),env.locals + 1)] "k" [] (.BinOp (.BinOp (.BinOp (.Subscript (.Name "nums" q0) (.Constant (.int 0) k0 q1) q2) .FloorDiv (.BinOp (.Constant (.int 9) k9 p9) .Pow (.Name "k" pk) p1) p2) .Mod (.Constant (.int 9) k8 p8) p3) .Add (.Constant (.int 1) kk p0) p4) wr Pp (fun _=>true) (ElF n0) s₂:=by
 refine⟨fun K i v s₃ m₃ E' _ _ _ _ _ _=>wpAny_pure ⟨rfl,Keeps.refl' _⟩,fun K i v s₃ m₃ E' _ hp _ hn hm hk3 _=> ?_⟩;have z:=Kw hs N.kind H.k [(("nums":Str),env.locals + 1)] K;obtain⟨hi,t,rfl⟩:=hP i v hp;have cell3:s₃.heap.IsCell (env.locals + 1) (some (.ref D)):=hcell.imp fun oc c=>⟨hk3 _ _ hcw c.1,c.2⟩;have list3:s₃.heap.IsList D items:=Heap.PlainList.isList ⟨n,hk3 _ _ hDw hD⟩;have kd:((compEnvC sc [(("nums":Str),env.locals + 1)] K env).scope.kind= .function):=hk;refine wpAny_BinOp (wpAny_BinOp (wpAny_BinOp (Subscript_ (wpAny_Name (wpAny_loadName_cell kd z.1 rfl cell3 (wpAny_Constant_int (Zh4 (s:={s₃ with toks:=s₃.toks + 1}) H h0 list3 rfl fun t0=> ?_))) Ng))));refine wpAny_BinOp (wpAny_Constant_int (wpAny_Name (wpAny_loadName_local kd z.2 hn hm ?_) (by decide +kernel)));refine pow_int_small (Int.natCast_nonneg i) (by omega) (by decide) ?_;rw[Int.toNat_natCast];exact floordiv_int (Int.pow_ne_zero (by decide)) (wpAny_Constant_int (mod_int (by decide) (wpAny_Constant_int (add_int ⟨⟨i,t,_,rfl,rfl⟩,s₃.heap,_,rfl,fun _ _ g=>g⟩)))) (hp:= .inl (Ztb (Nat.lt_of_le_of_lt (Yin hi) (by decide))))
theorem Gj{c i:Nat}{dd:PyData}(h:(Xc c)[i]? =some dd):i < c∧dd= .int (i:Nat):=by
 unfold Xc at h;rw[List.getElem?_map] at h;exact Mo h fun c' e3 e4=>by
  have e:=List.getElem?_eq_some_iff.mp e3;exact e.elim fun hl e=>⟨by rw[List.length_range] at hl;exact hl,by rw[← e4,← e,List.getElem_range]⟩
theorem Ao(X:Vr C mg mb)(N:Yd C tL env)(hcf:SoundCF C d cf)(H:NumsOk env P D items n nl){n0:Int}(h0:nl[0]? =some n0)(v:LI C σ ρ env lo P (some (.ref D)) s₁ s){st:Stmt}(h:Cp st=true){c:Nat}(hc:c≤8)(hlo:lo[5]? =some (some (.dat (.int (c:Int)))))
 {cs:List Int} (hcs:cs.map C.ν=(List.range' 0 c).map (elK n0)) (hb:Yv 6 (.dat (.list (cs.map PyData.int))) lo=some lo1)
 (Q:Flow→Shared→Prop) (E:Value→Shared→Prop) (rm:Room A d) (q:∀ρ' s',LI C σ ρ' env lo1 P (some (.ref D)) s₁ s'→Q .next s'):wpAny (model C.prog C.wld) A (exec st env) Q E s:=
 Cq (M:=fun st=>wpAny (model C.prog C.wld) A (exec st env) Q E s) h fun x px q0 k0 q1 q2 k9 p9 pk p1 p2 k8 p8 p3 kk p0 p4 pz it sc p pA h1 h8 k1 k2 h10=>by
 have o:=Ym N h1;have ZH:ZOk (ZL C env d mg mb):=⟨X,N⟩;have SI:=Mz ZH hcf 2 Ck it h8;have evc:eNm 5 lo σ=some (.dat (.int (c:Int)),σ):=(Mp hlo).trans (Mp rfl)
 refine wpAny_Assign_ListComp_free (fun _=>true) (ElF n0) (show pure (env.blockKind == .function&&env.kindOf x == some .local&&px.line == p.line&& !(sc.names.any fun(m,k)=>m == x&&(k == .local || k == .cell)))=pure true by
  rw[show env.blockKind= .function by unfold Env.blockKind;rw[N.kind];rfl,o.2.1,(a2 h10).1,(a2 h10).2];rfl) (Dj k2 H.c) (El k2 nofun nofun nofun) k1 (El (p:=fun y=>y.2= .local→sc.names.lookup y.1=some .local) k2 (fun _=>k2 ▸ Dv) (fun _=>k2 ▸ Zgm) nofun) (k2 ▸ Zgm) o.2.1 (S9 N)
  (S1 ZH (SI.r (eNm 5) rfl) evc (Nat.ble_eq_true_of_le (Nat.le_trans hc (by decide))) A s ρ _ _ (v.pre rm) fun ρ1 s1 G I hh fp Pp St P1 k1' S=> ?_) (Yz SI.s.p)
 have w1:=v.ext k1' P1.r;obtain⟨m,am,bm⟩:=w1.F.at_;obtain⟨oL,es,ep,hoL,hdL,hrest⟩:=id am;obtain⟨oc,c1,c2⟩:=w1.cell;have hDs:=(w1.p D _ H.p).1;have nI:∀{b o},s1.heap.get? b=some o→b ∉ [I]:=fun g hm=>by rw[List.mem_singleton.mp hm,S.new] at g;exact nn g
 have hlr:(Xc (c:Int)).length=c:=Yw;have hP:∀i v,Pp i v→i < 10∧∃t,v=Value.int ((i:Nat):Int) t:=fun i v hp=>(S.items i v hp).elim fun dd e=>by
  have r:=Gj e.1;rw[r.2] at e;exact⟨Nat.lt_of_lt_of_le r.1 (Nat.le_trans hc (by decide)),e.2.elim fun t e6=>⟨t,e6.trans (congrArg (Value.int · t) (Yu X.v0 (Nat.le_trans (Nat.le_of_lt r.1) (Nat.le_trans hc (by decide)))))⟩⟩
 refine⟨I,fp,[I],(Xc (c:Int)).length,Pp,St,m,rfl,S.walks,by rw[hlr,sizeLine_eq];exact Nat.le_trans hc (by decide),S.st,S.lt,nI hoL,⟨oL,es,ep,S.keep _ _ hoL,hdL,hrest⟩,
  Gg N H h0 k1 k2 ⟨oc,S.keep _ _ c1,c2⟩ (nI c1) (S.keep _ _ hDs) (nI hDs) hP,fun D2 h' tk ys us hD hl hpl hlen hPj hF hn' hk=> ?_⟩
 rw[List.filter_eq_self.mpr (fun _ _=>rfl)] at hF;have il:IntsAre ys.toList ((List.range' 0 c).map (elK n0)):=Sj (n:=0) (m:=c) (by rw[hlen,hlr]) (fun j v e=>(hP j v (hPj j v e)).2.imp fun t e2=>e2.trans (by rw[Nat.zero_add])) hF;have hD1:s1.heap.get? D2=none:=by
  cases q1:s1.heap.get? D2 with
  |none=>rfl
  |some o=>rw[S.keep _ _ q1] at hD;exact nn hD.symm
 have hDL:D2≠env.locals:=fun e=>by rw[← e,hD1] at hoL;exact nn hoL
 have bk:=Np hoL (h':=h') (R0 hdL) (hn'.elim fun o' z=>z.elim fun _ z=>z.elim fun _ z=>⟨o',z.1⟩);have keepO:∀b o,s1.heap.get? b=some o→(h'.update env.locals (fun _=>oL)).get? b=some o:=fun b o g=>by
  by_cases z:b=env.locals
  ·rw[z] at g ⊢;exact g ▸ hoL ▸ bk.1
  ·exact bk.2 b o z (hk b o z (nI g) (S.keep b o g))
 have w2:LI C σ ρ1 env lo P (some (.ref D)) s₁ {s1 with heap:=h'.update env.locals (fun _=>oL)}:=w1.grow keepO rfl;have v2:VR C σ ρ1 (h'.update env.locals (fun _=>oL)) (.dat (.list (cs.map PyData.int))) (.ref D2):=⟨D2,ys,rfl,P1.r.fresh hD1,hpl.imp fun nn hpl=>bk.2 D2 _ hDL hpl,Cj (hcs ▸ il)⟩;have z:=V5 N o.1 w2.r w2.F ⟨oL,es,ep,bk.1,hdL,hrest⟩ (fun j v e=>(bm j v e).imp fun n e=>e.imp fun k e=>e.imp fun x e=>⟨e.1,e.2.1,e.2.2.ext (s':={s1 with heap:=h'.update env.locals (fun _=>oL)}) (.grow keepO rfl)⟩) v2 hb hn' fun b o z g=>by rw[Heap.get?_update_other _ _ (Ne.symm z)] at g;exact g
 exact q ρ1 {s1 with heap:=h',toks:=tk} (w2.extl (z.2.2 rfl rfl rfl) z.1 z.2.1)
end
noncomputable def loW:Zd:=[none,none,some (.loc .w),none,none,none,none,none,none]
def Yh3(a b:Zd):Prop:=∀(j:Nat) (u:V),a[j]? =some (some u)→b[j]? =some (some u)
theorem K1{j:Nat}{u:V}(h:loW[j]? =some (some u)){M:Nat→V→Prop}(k:M 2 (.loc .w)):M j u:=by
 have N:∀{j},loW[j]? =some none→loW[j]? =some (some u)→M j u:=fun a b=>nn (sj (a.symm.trans b));rcases Nat.lt_or_ge j 9 with z |z
 ·exact Xp (n:=9) (p:=fun j=>loW[j]? =some (some u)→M j u) ⟨⟨⟨⟨⟨⟨⟨⟨⟨trivial,N rfl⟩,N rfl⟩,fun e=>sj (sj e) ▸ k⟩,N rfl⟩,N rfl⟩,N rfl⟩,N rfl⟩,N rfl⟩,N rfl⟩ z h
 ·exact nn ((List.getElem?_eq_none (l:=loW) z).symm.trans h)
theorem Km{lo:Zd}(h:isW lo 2=some ()):lo[2]? =some (some (.loc .w)):=Za h fun o e h=>Za h fun v e2 h=>Ew (M:=fun v=>o=some v→lo[2]? =some (some (.loc .w))) h (fun l h=>Zgn (M:=fun l=>o=some (.loc l)→lo[2]? =some (some (.loc .w))) h fun _ e2=>e.trans (congrArg some e2)) e2
theorem Zas{lo:Zd}(h:lo[2]? =some (some (.loc .w))):Yh3 loW lo:=fun j u e=>K1 (M:=fun j u=>lo[j]? =some (some u)) e h
section
variable{C C':Cx}{σ σ':St}{ρ ρ':Rho}{env:Env}{lo lo1:Zd}{P:Addr→Obj→Prop}{cv:Option Value}{s₁ s:Shared}
theorem LI.renew(sm:Ix C C')(tn:Tn2 C C' σ σ' ρ ρ')(r':R C' σ' ρ' s.heap)(v:LI C σ ρ env lo P cv s₁ s)(h:∀(j:Nat) (u:V) x,lo1[j]? =some (some u)→(∃u0,lo[j]? =some (some u0)∧(VR C σ ρ s.heap u0 x→VR C' σ' ρ' s.heap u x))):LI C' σ' ρ' env lo1 P cv s₁ s:=
 ⟨r',⟨v.F.at_.imp fun m z=>⟨z.1,fun j u e=>(h j u (.none) e).elim fun u0 y=>(z.2 j u0 y.1).imp fun n w=>w.imp fun k w=>w.imp fun x w=>⟨w.1,w.2.1,(h j u x e).elim fun u1 y1=>by
   have e1:=sj (sj (y.1.symm.trans y1.1))
   exact y1.2 (e1 ▸ w.2.2)⟩⟩,fun o=>v.F.own (tn.own _ o),fun l dl e=>(tn.live l dl).elim fun l0 d0=>v.F.liv l0 d0.1 (d0.2.symm.trans e),sm.K.symm ▸ v.F.far,r'.old⟩,
   fun b o h=>have z:=v.p b o h;⟨z.1,z.2.1,z.2.2.1,fun y=>z.2.2.2 (tn.own _ y)⟩,v.rest,v.cell,fun o=>v.cown (tn.own _ o),fun l dl e=>(tn.live l dl).elim fun l0 d0=>v.cliv l0 d0.1 (d0.2.symm.trans e),sm.K.symm ▸ v.cK⟩
theorem LI.renewW(sm:Ix C C')(tn:Tn2 C C' σ σ' ρ ρ')(r':R C' σ' ρ' s.heap)(v:LI C σ ρ env loW P cv s₁ s)(hw:ρ' .w=ρ .w)(hd:Dom σ' .w):LI C' σ' ρ' env loW P cv s₁ s:=
 LI.renew sm tn r' v fun j u x e=>K1 (M:=fun j u=>∃u0,loW[j]? =some (some u0)∧(VR C σ ρ s.heap u0 x→VR C' σ' ρ' s.heap u x)) e ⟨_,rfl,fun z=>⟨z.1.trans (by rw[hw]),hd⟩⟩
end
noncomputable def σP (W:Wd):St:=⟨247,247,[],some W⟩
theorem Qi{old:Nat→Option O}{m:Nat}(h:Xl old m=true){n:Nat}{o:O}(hn:n < m)(e:old n=some o):Be o=true:=by
 induction m with
 |zero=>exact absurd hn (Nat.not_lt_zero _)
 |succ m ih=>
  have h:(@Option.rec O (fun _=>Bool) true (fun o=>Be o) (old m)&&Xl old m)=true:=h;refine(Nat.lt_or_eq_of_le (Nat.le_of_lt_succ hn)).elim (ih (a2 h).2) fun z=> ?_;have h:=(a2 h).1;rw[← z,e] at h;exact h
theorem Sh{old:Nat→Option O}(h:Xl old 247=true){W:Wd}(n:Nat)(o:O)(e:Zj old (σP W) n=some o):Be o=true:=by
 by_cases hb:n < 247
 ·exact Qi h hb ((Y0 (σ:=σP W) hb).symm.trans e)
 ·exact nn ((Xs (σ:=σP W) hb hb).symm.trans e)
theorem J6{w:World}{fx fx':List Fact}{old:Nat→Option O}{val val':Int→Int}{sl sl':Nat}(h:val 0=0)(h':val' 0=0):Ix (CK w fx old val sl) (CK w fx' old val' sl'):=⟨h,h',rfl,rfl,rfl,rfl,rfl,rfl,rfl⟩
section
variable{w:World}{fx fx':List Fact}{old:Nat→Option O}{val:Int→Int}{slack:Nat}{W:Wd}{ρ:Rho}{env:Env}{P:Addr→Obj→Prop}{cv:Option Value}{s₁ s:Shared}
theorem LI.canon(hl:Xl old 247=true)(v0:val 0=0)(v:LI (CK w fx old val slack) (σP W) ρ env loW P cv s₁ s){pr:D}{c room:Nat}{o1 o2 b1 b2 u1 u2:Int}{ys:List Int}(F:Fit W pr c room o1 o2 b1 b2 u1 u2 ys){pr':D}{q:Int}
 (hp:mD (vC (Tu val W o1 o2 b1 b2 u1 u2 ys q)) pr'=mD (vC val) pr):∃ρ',LI (CK w fx' old (Tu val W o1 o2 b1 b2 u1 u2 ys q) (slack + 1000)) (sC pr' c room) ρ' env loW P cv s₁ s∧Tn2 (CK w fx old val slack) (CK w fx' old (Tu val W o1 o2 b1 b2 u1 u2 ys q) (slack + 1000)) (σP W) (sC pr' c room) ρ ρ':=
 have sm:=J6 (w:=w) (fx:=fx) (fx':=fx') (old:=old) (val':=Tu val W o1 o2 b1 b2 u1 u2 ys q) (sl:=slack) (sl':=slack + 1000) v0 rfl;have z:=R.renew sm rfl (F.rn (w:=w) (fx:=fx) (fx':=fx') (old:=old) (slack:=slack) v0 hp) v.r (Sh hl)
 ⟨_,LI.renewW sm z.2 z.1 v rfl ⟨_,rfl,trivial⟩,z.2⟩
noncomputable def W3 (val:Int→Int) (W:Wd) (ys:List Int):Int→Int:=nv (Zr7 (vC val) W 0 0 0 0 0 0) ys 0
theorem LI.bare(hl:Xl old 247=true)(v0:val 0=0)(v:LI (CK w fx old val slack) (σP W) ρ env loW P cv s₁ s)(hs:W.sid=2)(hb:W.bnd≤1000)(hp:Q4 W.pair=true)(ys:List Int):
 ∃ρ',LI (CK w fx' old (W3 val W ys) (slack + 1000)) (σP (wB W.pair)) ρ' env loW P cv s₁ s:=
 have sm:=J6 (w:=w) (fx:=fx) (fx':=fx') (old:=old) (val':=W3 val W ys) (sl:=slack) (sl':=slack + 1000) v0 rfl;have T:∀n,0 < n→n < 19→vC (W3 val W ys) (uk n)=Zr7 (vC val) W 0 0 0 0 0 0 n:=fun n h h2=>(N5 _ _).trans (Yaq _ _ _ h h2);have rn:Rn (CK w fx old val slack) (CK w fx' old (W3 val W ys) (slack + 1000)) W (wB W.pair) (fun k=>k) (fun k=>k):=
  ⟨hs.symm,(Se (val:=W3 val W ys) rfl hp).trans (Se v0 hp).symm,T 5 (by decide) (by decide),T 6 (by decide) (by decide),Nat.le_trans (Nat.add_le_add_right hb slack) (Nat.le_of_eq ((Nat.add_comm _ _).trans (Nat.zero_add _).symm)),Nat.zero_le _,
    fun k fs g=>nn g,fun k fs g=>nn g,fun k v g=>nn g,fun k k' g=>nf g,fun k k' g=>nf g⟩
 have z:=R.renew sm rfl rn v.r (Sh hl)
 ⟨_,LI.renewW sm z.2 z.1 v rfl ⟨_,rfl,trivial⟩⟩
end
noncomputable def Yah (st:Stmt):Bool:=kIf st fun t l o _=>X4 o (kL5 l fun a b c dd e=>Kl t&&(Cn a&&(Cp b&&(Cr c&&(Rm tL Wf [dd]&&Zqh Zfy e)))))
theorem Zt4:hdB Yah (Zm 15)=true:=by kernel_rfl
theorem Ej(T:Tb)(cf:Nat→List V→St→Res)(r:Nat)(σ:St):kSs T cf 2 Wf (loN 0 r) σ=some (.next,loN 0 r,σ):=by kernel_rfl
theorem Zo8(T:Tb)(cf:Nat→List V→St→Res)(r:Nat)(σ:St):kSs T cf 2 Wf (loN 1 r) σ=some (.next,loN 1 4,σ):=by kernel_rfl
theorem Zo9(T:Tb)(cf:Nat→List V→St→Res)(r:Nat)(σ:St):kSs T cf 2 Wf (loN 2 r) σ=some (.next,loN 2 4,σ):=by kernel_rfl
theorem Zoa(T:Tb)(cf:Nat→List V→St→Res)(r:Nat)(σ:St):kSs T cf 2 Wf (loN 3 r) σ=some (.next,loN 3 4,σ):=by kernel_rfl
theorem Zob(T:Tb)(cf:Nat→List V→St→Res)(r:Nat)(σ:St):kSs T cf 2 Wf (loN 4 r) σ=some (.next,loN 4 4,σ):=by kernel_rfl
theorem Zoc(T:Tb)(cf:Nat→List V→St→Res)(r:Nat)(σ:St):kSs T cf 2 Wf (loN 8 r) σ=some (.next,loN 8 8,σ):=by kernel_rfl
def E3(old:Nat→Option O)(pr:D)(r c:Nat):Prop:=∃room,(∀T cf σ,kSs T cf 2 Wf (loN c r) σ=some (.next,loN c room,σ))∧H5 (F9 old pr c room)=some ()
theorem Gl(old:Nat→Option O)(pr:D){c r:Nat}(hc:Zdk c)(hr:r=0∨r=4):E3 old pr r c:=
 have C:=fun{a:Nat} {l:List Nat} (h:E3 old pr r a) (k:∀y∈l,E3 old pr r y)=>List.forall_mem_cons.mpr ⟨h,k⟩
 (C (hr.elim (fun e=>by rw[e];exact⟨0,fun T cf σ=>Ej T cf 0 σ,Bq old pr⟩) fun e=>by rw[e];exact⟨4,fun T cf σ=>Ej T cf 4 σ,Br old pr⟩) (C ⟨4,fun T cf σ=>Zo8 T cf r σ,Bs old pr⟩ (C ⟨4,fun T cf σ=>Zo9 T cf r σ,Bt old pr⟩ (C ⟨4,fun T cf σ=>Zoa T cf r σ,Bu old pr⟩
   (C ⟨4,fun T cf σ=>Zob T cf r σ,Bv old pr⟩ (C ⟨8,fun T cf σ=>Zoc T cf r σ,Bw old pr⟩ fun _ h=>absurd h List.not_mem_nil)))))) c hc
theorem Zh5{r:Res}(h:H5 r=some ()){P:Prop}(k:∀d W,r=some (.dat d,σP W)→L6 {W with pair:=d}=some ()→P):P:=Zaw h fun d σ e h=>Zl h fun g h=>Za h fun W hw h=>Xy g fun g1 g2 g3=>k d W (e.trans (by rw[G1 g1 g2 g3 hw];rfl)) h
noncomputable def ys8 (n0:Int):List Int:=(List.range 8).map fun k=>(n0.fdiv (9 ^ k)).fmod 9
structure M8(val:Int→Int):Prop where
 v0:val 0=0
 nn:∀n:Nat,0≤val (19 + n:Nat)
theorem Zpx(n0:Int):∀y∈ys8 n0,0≤y:=fun y h=>(List.mem_map.mp h).elim fun k z=>z.2 ▸ (X9 _ (m:=9) (by decide)).1
theorem Zdt(val:Int→Int)(W:Wd){ys:List Int}(hy:∀y∈ys,0≤y):M8 (W3 val W ys):=⟨rfl,fun n=>by
 rcases Nat.lt_or_ge n 11 with h |h
 ·rw[W3,Yap _ _ _ h];exact Sx (Zo1 (Int.le_refl 0)) n
 ·exact(Nat.exists_eq_add_of_le h).elim fun m e=>by rw[e,← Nat.add_assoc,W3,Zqo];exact Sx hy m⟩
theorem Rq(val:Int→Int)(W:Wd)(n0:Int):M8 (W3 val W (ys8 n0)):=Zdt val W (Zpx n0)
theorem E5(val:Int→Int)(W:Wd)(ys:List Int)(i:Nat):W3 val W ys ((30 + i:Nat):Int)=(ys[i]?).getD 0:=Zqo _ _ _ i
theorem Zpw(n0:Int){i:Nat}(h:i < 8):(ys8 n0)[i]? =some ((n0.fdiv (9 ^ i)).fmod 9):=by
 unfold ys8;rw[List.getElem?_map,List.getElem?_range h,Option.map_some]
theorem E6(val:Int→Int)(W:Wd)(n0:Int){i:Nat}(h:i < 8):vC (W3 val W (ys8 n0)) (uk (30 + i) + 1)=elK n0 i:=by
 rw[Qz,E5,Zpw n0 h,Option.getD_some];unfold elK;rfl
theorem H2{α β γ:Type}(g:β→γ)(f:α→β)(l:List α):(l.map f).map g=l.map fun x=>g (f x):=by rw[List.map_map];rfl
theorem Zpv{val:Int→Int}{W:Wd}{n0:Int}{c:Nat}(hc:c≤8):(xsC c).map (vC (W3 val W (ys8 n0)))=(List.range' 0 c).map (elK n0):=by
 unfold xsC;rw[H2,← List.range_eq_range'];refine List.map_congr_left fun i hi=> ?_;exact E6 val W n0 (Nat.lt_of_lt_of_le (List.mem_range.mp hi) hc)
theorem Zeg{c:Nat}(h:Zdk c):c≤8:=(by decide:∀c∈[0,1,2,3,4,8],c≤8) c h
section
variable{w:World}{old:Nat→Option O}{val:Int→Int}{slack:Nat}{ρ:Rho}{env:Env}{P:Addr→Obj→Prop}{s₁ s:Shared}{A:Around}
variable{D:Addr}{items:Array Value}{n:Nat}{nl:List Int}
theorem Es(Pm:Params):(Uf (KF Pm) 3 "sum",Uf (KF Pm) 0 "sum")=(none,some (.builtin "sum")):=by kernel_rfl
theorem cx0(hc:M8 val)(hs:slack≤100000):Vr (CK w [] old val slack) (Uf (KF w.params) 3) (Uf (KF w.params) 0):=Zei hc.v0 Tv hs
theorem Lo(hs:slack≤100000)(hc:M8 val)(S:Ma old):SoundCF (CK w [] old val slack) 19 (cfM old):=Xn (cx0 hc hs) rfl (fun f F e=>Zqd w [] old val slack f F e) S 12
theorem Zoh(hs:slack≤100000)(S:Ma old)(N:∀fx val slack,Yd (CK w fx old val slack) tL env)(H:NumsOk env P D items n nl)(hn:nl.length≤1000){W0:Wd}{pr:PyData}
 (v:LI (CK w [] old (W3 val W0 (ys8 (nl.headD 0))) slack) (σP (wB pr)) ρ env loW P (some (.ref D)) s₁ s) {st:Stmt} (h:Yah st=true) (Q:Flow→Shared→Prop) (E:Value→Shared→Prop) (rm:Room A 19)
 (q:∀ρ' s' W,(nl≠[]→L6 W=some ())→LI (CK w [] old (W3 val W0 (ys8 (nl.headD 0))) slack) (σP W) ρ' env loW P (some (.ref D)) s₁ s'→Q .next s'):wpAny (model PW w) A (exec st env) Q E s:=
 Zgf (M:=fun st=>wpAny (model PW w) A (exec st env) Q E s) h fun t l o p h=>Zt (M:=fun o=>wpAny (model PW w) A (exec (.If t l o p) env) Q E s) h fun h=>C2 (M:=fun l=>wpAny (model PW w) A (exec (.If t l [] p) env) Q E s) h fun a b c dd e h=>Xy h fun h1 h2 h=>T1 h fun h3 h4 h5 h6=>by
 have hc:=Rq val W0 (nl.headD 0);have X:=cx0 (w:=w) (old:=old) hc hs;have hcf:=Lo (w:=w) hs hc S;have NN:=N [] (W3 val W0 (ys8 (nl.headD 0))) slack;refine wpAny_If (Za9 X NN H hn v h1 fun tk=> ?_);cases nl with
 |nil=>
  rw[if_neg (by decide)];exact wpAny_execs_nil (q ρ _ _ (fun h=>absurd rfl h) (v.toks tk))
 |cons n0 nr=>
  rw[if_pos (show decide (0 < (n0::nr).length)=true from decide_eq_true (Nat.zero_lt_succ _))];refine wpAny_execs_cons (An X (congrArg (·.1) (Es w.params)) (congrArg (·.2) (Es w.params)) NN hcf H (v.toks tk) h2 _ _ rm (fun ρ1 s1 cc hcc v1=> ?_) (show 5 < 9 by decide));refine wpAny_execs_cons (Ao X NN hcf H (n0:=n0) rfl v1 h3 (c:=cc) (Zeg hcc) rfl (cs:=xsC cc) (Zpv (Zeg hcc)) rfl _ _ rm fun ρ2 s2 v2=> ?_);refine wpAny_execs_cons (Ap X NN H (n0:=n0) rfl v2 h4 _ _ rm (fun ρ3 s3 r hr v3=> ?_) (show 7 < 9 by decide));refine(Gl old pr hcc hr).elim fun room z=>Zh5 z.2 fun d5 W5 e5 f5=> ?_;refine LI.runs (sts:=[dd]) (rest:=[e]) X NN hcf h5 (lo:=loN cc r) (z.1 _ _ _) v3 _ _ rm fun ρ4 s4 v4=> ?_;exact wpAny_execs_cons (Znz X NN hcf h6 (w:=W5) e5 rfl rfl v4 _ _ rm fun ρ5 s5 v5=>wpAny_execs_nil (q ρ5 s5 _ (fun _=>f5) (v5.weak (Zas rfl))))
end
noncomputable def Yai (st:Stmt):Bool:=Fz st fun tg it body o _=>X4 o (X5 tL 8 tg&&(R7 it&&Rm tL [Qt] body))
theorem Zt5:hdB Yai (Zm 16)=true:=by kernel_rfl
theorem Bc{r:Wz}(h:Ml r=some ()){P:Prop}(k:∀lo W,r=some (.next,lo,σP W)→lo[2]? =some (some (.loc .w))→L6 W=some ()→P):P:=Zym h fun lo σ e h=>Za h fun _ h0 h=>Zl h fun g h=>Za h fun W hw h=>Xy g fun g1 g2 g3=>k lo W (e.trans (by rw[G1 g1 g2 g3 hw];rfl)) (Km h0) h
theorem Rt{val:Int→Int}(hv:M8 val){W:Wd}{o1 o2 b1 b2 u1 u2:Int}{ys:List Int}(hp:∀y∈ys,Ab y=true){q:Int}(hq:0≤q):M8 (Tu val W o1 o2 b1 b2 u1 u2 ys q):=⟨rfl,Dh (Pa hv.nn hp hq)⟩
section
variable{w:World}{old:Nat→Option O}{fx:List Fact}{val:Int→Int}{slack:Nat}{ρ:Rho}{env:Env}{P:Addr→Obj→Prop}{cv:Option Value}{s₁ s:Shared}{A:Around}{W:Wd}
theorem LI.next(hl:Xl old 247=true)(hv:M8 val)(hf:L6 W=some ())(v:LI (CK w fx old val slack) (σP W) ρ env loW P cv s₁ s){q:Int}(hq:0≤q){X:Prop}(K:∀val' c room sw,M8 val'→QvOk val' q→crB c room=true→(qv q 3).fmod ((2:Nat):Int)=((sw:Nat):Int)→
 (∀fx',∃ρ',LI (CK w fx' old val' (slack + 1000)) (sC (prC sw) c room) ρ' env loW P cv s₁ s∧Tn2 (CK w fx old val slack) (CK w fx' old val' (slack + 1000)) (σP W) (sC (prC sw) c room) ρ ρ')→X):X:=Zf8 hf fun c room p1 p2 a1 a2 v1 v2 ys F=>by
 have b:=X9 (qv q 3) (m:=2) (by decide);refine(Int.eq_ofNat_of_zero_le b.1).elim fun sw hsw=> ?_;have h2:sw < 2:=Int.ofNat_lt.mp (hsw ▸ b.2);cases sw with
 |zero=>exact K (Tu val W p1 p2 a1 a2 v1 v2 ys q) c room 0 (Rt hv F.pos hq) (Pa hv.nn F.pos hq) F.cr hsw fun fx'=>LI.canon (fx':=fx') hl hv.v0 v F (pr':=prC 0) (q:=q) (by
   show PyData.tuple [.int (vC _ (uk 1)),.int (vC _ (uk 2))]=PyData.tuple [.int (vC val p1),.int (vC val p2)]
   rw[Lm 1 (by decide) (by decide),Lm 2 (by decide) (by decide)];rfl)
 |succ n=>
  rw[show n=0 from Nat.lt_one_iff.mp (Nat.succ_lt_succ_iff.mp h2)] at hsw
  exact K (Tu val W p2 p1 a2 a1 v2 v1 ys q) c room 1 (Rt hv F.pos hq) (Pa hv.nn F.pos hq) F.cr hsw fun fx'=>LI.canon (fx':=fx') hl hv.v0 v F.swap (pr':=prC 1) (q:=q) (by
   show PyData.tuple [.int (vC _ (uk 2)),.int (vC _ (uk 1))]=PyData.tuple [.int (vC val p1),.int (vC val p2)]
   rw[Lm 1 (by decide) (by decide),Lm 2 (by decide) (by decide)];rfl)
end
structure ItOk(C:Cx)(σ:St)(ρ:Rho)(env:Env)(P:Addr→Obj→Prop)(I D:Addr)(i:Nat)(h:Heap):Prop where
 at_:h.IsListIter I D i
 own:¬Own C σ ρ I
 liv:∀l,Z2 C σ l→ρ l≠I
 K:C.K.lookup I=none
 nL:I≠env.locals
 nc:I≠env.locals + 1
 nP:∀b o,P b o→b≠I
section
variable{C C':Cx}{σ σ':St}{ρ ρ':Rho}{env:Env}{P:Addr→Obj→Prop}{I D:Addr}{i:Nat}
theorem ItOk.extl{s s':Shared}(x:ItOk C σ ρ env P I D i s.heap)(ho:σ.base≤σ.next)(k:ExtL C env.locals σ ρ s σ' ρ' s'):ItOk C σ' ρ' env P I D i s'.heap:=x.at_.elim fun o h=>
 have hn:=k.own I o x.nL x.own h.1
 ⟨⟨o,k.get I o x.nL x.own h.1,h.2⟩,hn,Vm k.base ho k.rho x.liv hn,x.K,x.nL,x.nc,x.nP⟩
theorem ItOk.renew{h:Heap}(x:ItOk C σ ρ env P I D i h)(sm:Ix C C')(tn:Tn2 C C' σ σ' ρ ρ'):ItOk C' σ' ρ' env P I D i h:=
 ⟨x.at_,fun o=>x.own (tn.own _ o),fun l dl e=>(tn.live l dl).elim fun l0 d0=>x.liv l0 d0.1 (d0.2.symm.trans e),sm.K.symm ▸ x.K,x.nL,x.nc,x.nP⟩
end
section
variable{w:World}{old:Nat→Option O}{fx:List Fact}{val:Int→Int}{slack:Nat}{ρ:Rho}{env:Env}{P:Addr→Obj→Prop}{s₁ s:Shared}{A:Around}{W:Wd}
variable{D:Addr}{items:Array Value}{n:Nat}{nl:List Int}
theorem A4(hl:Xl old 247=true)(S:Ma old)(N:∀fx val slack,Yd (CK w fx old val slack) tL env){I:Addr}{i:Nat}(hv:M8 val)(hs:slack + 1000≤100000)(hf:L6 W=some ())
 (v:LI (CK w fx old val slack) (σP W) ρ env loW P (some (.ref D)) s₁ s) (it:ItOk (CK w fx old val slack) (σP W) ρ env P I D i s.heap) {q:Int} (hq:0≤q) {t:Tok} {x:Str} {xp:Pos} (htg:okN tL .local 8 x=true) {body:List Stmt} (hbody:Rm tL [Qt] body=true) (rm:Room A 32)
 (Q:Unit→Shared→Prop) (Qb:Flow→Shared→Prop) (E E':Value→Shared→Prop)
 (hQ:∀s',wpAny (model PW w) A (execs body env) Qb E' s'→Q () s')
 (q3:∀fx' val' W' ρ' s',M8 val'→L6 W'=some ()→LI (CK w fx' old val' (slack + 1000)) (σP W') ρ' env loW P (some (.ref D)) s₁ s'→ItOk (CK w fx' old val' (slack + 1000)) (σP W') ρ' env P I D i s'.heap→Qb .next s'):
 wpAny (model PW w) A (assign (.Name x xp) env (.int q t)) Q E s:=LI.next hl hv hf v hq fun val' c room sw cv' H' hcr hsw mk=>(Zae H' old hcr hsw).elim fun fx' z=>z.elim fun cf TE=>(mk fx').elim fun ρ' y=>by
 have X':=Zei (w:=w) (old:=old) cv'.v0 TE.hold hs;have N':=N fx' val' (slack + 1000);have hcf:=TE.snd X' rfl (fun f F e=>Zqd w fx' old val' (slack + 1000) f F e) S;have it':=it.renew (J6 hv.v0 cv'.v0) y.2;refine Bc TE.ev fun lo' W' ev hlo' hf'=> ?_;refine Ok (Z:=ZL (CK w fx' old val' (slack + 1000)) env 32 (Uf (KF w.params) 3) (Uf (KF w.params) 0)) ⟨X',N'⟩ htg (.dat (.int (uk 20))) loW (loC (uk 20)) rfl A s _ ρ' _ Q E (y.1.pre rm) ⟨t,congrArg (Value.int · t) (H'.uk 1).symm⟩ fun s3 P3 k3=>hQ s3 ?_;have v3:=y.1.at_ P3 k3;have it3:=it'.extl y.1.r.old k3;refine Ia (Z:=ZL (CK w fx' old val' (slack + 1000)) env 32 (Uf (KF w.params) 3) (Uf (KF w.params) 0)) ⟨X',N'⟩ hcf 2 hbody (loC (uk 20)) (sC (prC sw) c room) .next lo' (σP W') ev A s3 ρ' _ _ P3 fun ρ4 s4 f P4 k4 fr=> ?_;rw[show f= .next from fr];exact q3 fx' val' W' ρ4 s4 cv' hf' ((v3.at_ P4 k4).weak (Zas hlo')) (it3.extl v3.r.old k4)
end
section
variable{w:World}{old:Nat→Option O}{fx:List Fact}{val:Int→Int}{slack:Nat}{ρ:Rho}{env:Env}{P:Addr→Obj→Prop}{s₁ s:Shared}{A:Around}{W:Wd}
variable{D:Addr}{items:Array Value}{n:Nat}{nl:List Int}
inductive Zdo(w:World)(old:Nat→Option O)(env:Env)(P:Addr→Obj→Prop)(D I:Addr)(nl:List Int)(s₁:Shared)(i:Nat)(s:Shared):Prop
 |mk (fx:List Fact) (val:Int→Int) (slack:Nat) (W:Wd) (ρ:Rho) (c:M8 val) (k:slack≤20000 + 1000 * i) (f:i < nl.length→L6 W=some ()) (v:LI (CK w fx old val slack) (σP W) ρ env loW P (some (.ref D)) s₁ s) (it:ItOk (CK w fx old val slack) (σP W) ρ env P I D i s.heap):Zdo w old env P D I nl s₁ i s
theorem LI.iter(v:LI (CK w fx old val slack) (σP W) ρ env loW P (some (.ref D)) s₁ s)(hp:P D {cls:= .type "list",data:= .seq items n}){h':Heap}(hh:h'=s.heap.push {cls:= .type "list_iterator",data:= .fields #[.ref D,.int 0 0]}):
 LI (CK w fx old val slack) (σP W) ρ env loW P (some (.ref D)) s₁ {s with heap:=h'}∧ItOk (CK w fx old val slack) (σP W) ρ env P s.heap.objs.size D 0 h'∧D≠s.heap.objs.size:=by
 rw[hh];have hI:=Zv s.heap;have ne:∀{b o},s.heap.get? b=some o→b≠s.heap.objs.size:=fun g e=>by rw[e,hI] at g;exact nn g
 exact⟨v.grow (fun _ _ g=>Heap.get?_push_of_some _ g) rfl,⟨⟨_,Heap.get?_push_size _ rfl,rfl,rfl⟩,v.r.fresh hI,fun l dl e=>(v.r.there dl).elim fun x hx=>ne hx e,Yb v.r hI,v.F.at_.elim fun m z=>z.1.elim fun oL z=>z.elim fun _ z=>z.elim fun _ z=>Ne.symm (ne z.1),v.cell.elim fun oc z=>Ne.symm (ne z.1),fun b o h=>ne (v.p b o h).1⟩,ne (v.p _ _ hp).1⟩
theorem LI.step{I:Addr}{i:Nat}(v:LI (CK w fx old val slack) (σP W) ρ env loW P (some (.ref D)) s₁ s)(it:ItOk (CK w fx old val slack) (σP W) ρ env P I D i s.heap){h':Heap}{tk:Nat}(k:∀b o,b ∉ [I]→s.heap.get? b=some o→h'.get? b=some o):LI (CK w fx old val slack) (σP W) ρ env loW P (some (.ref D)) s₁ {s with heap:=h',toks:=tk}:=
 v.touch it.liv it.K (fun o vs n g e=>it.at_.elim fun o' z=>by rw[sj (g.symm.trans z.1:some o=some o')] at e;exact nomatch e.symm.trans z.2.2) it.nL it.nP (fun b o hb g=>k b o (fun z=>hb (List.mem_singleton.mp z)) g) (v.cell.imp fun oc z=>⟨k _ _ (fun z=>it.nc (List.mem_singleton.mp z).symm) z.1,z.2⟩)
theorem Zoi(hl:Xl old 247=true)(S:Ma old)(N:∀fx val slack,Yd (CK w fx old val slack) tL env)(H:NumsOk env P D items n nl)(hq:∀q∈nl,0≤q)(hn:nl.length≤4)
 (hv:M8 val) (hs:slack≤20000) (hf:nl≠[]→L6 W=some ()) (v:LI (CK w fx old val slack) (σP W) ρ env loW P (some (.ref D)) s₁ s) {st:Stmt} (h:Yai st=true) (rm:Room A 32) (Q:Flow→Shared→Prop) (E:Value→Shared→Prop)
 (q:∀fx val slack W ρ s',LI (CK w fx old val slack) (σP W) ρ env loW P (some (.ref D)) s₁ s'→Q .next s'):wpAny (model PW w) A (exec st env) Q E s:=
 Kq (M:=fun st=>wpAny (model PW w) A (exec st env) Q E s) h fun tg it body o p h=>Zt (M:=fun o=>wpAny (model PW w) A (exec (.For tg it body o p) env) Q E s) h fun h=>Xy h fun h1 h2 h3=>
 Y2 (k:=fun y _=>okN tL .local 8 y) (M:=fun tg=>wpAny (model PW w) A (exec (.For tg it body [] p) env) Q E s) h1 fun x xp h1=>Uj (M:=fun it=>wpAny (model PW w) A (exec (.For (.Name x xp) it body [] p) env) Q E s) h2 fun pn=>by
 have hsz:items.size=nl.length:=H.sz;refine wpAny_For (Vn (N fx val slack) H v.cell (wpAny_pyIter_list (H.list v) ?_)) (fun _=>rfl);have z:=v.iter H.p rfl;have hDI:=z.2.2;refine codeAny_forLoop_any (fun m s'=>∃i,i≤nl.length∧m=nl.length - i + 1∧Zdo w old env P D s.heap.objs.size nl s₁ i s') (fun m s' hJ=> ?_) (nl.length + 1) ⟨0,Nat.zero_le _,rfl,fx,val,slack,W,ρ,hv,hs,fun hh=>hf (fun e=>by rw[e] at hh;exact nomatch hh),z.1,z.2.1⟩;refine hJ.elim fun i hJ=>hJ.2.2.casesOn fun fx2 val2 slack2 W2 ρ2 hv2 hs2 hf2 v2 it2=> ?_;have kW:=Walks.list (prog:=PW) (w:=w) rm.1 s.heap.objs.size D hDI items;by_cases hlt:i < nl.length
 ·refine kW.item i s' _ _ (by rw[hsz];exact hlt) ⟨it2.at_,H.list v2⟩ fun u h' tk hu hst kk=> ?_
  refine(H.i.at _ _ (Array.getElem?_toList.trans hu)).elim fun q0 e=>e.elim fun t e=>e.1 ▸ hst.1.elim fun oI g=>Wg (s:={s' with heap:=h',toks:=tk}) g.1 g.2.1 g.2.2 (by decide) ?_;refine A4 hl S N hv2 (by omega) (hf2 hlt) (v2.step it2 kk) ⟨hst.1,it2.own,it2.liv,it2.K,it2.nL,it2.nc,it2.nP⟩ (hq q0 (List.mem_of_getElem? e.2)) h1 h3 rm _ _ _ _ (fun s' hs'=>hs') fun fx' val' W' ρ' s' c1 c2 c3 c4=> ?_;exact⟨nl.length - (i + 1) + 1,by omega,i + 1,hlt,rfl,fx',val',_,W',ρ',c1,by omega,fun _=>c2,c3,c4⟩
 ·rw[show i=nl.length by omega] at it2 hJ
  exact kW.done s' _ _ (by rw[hsz];exact⟨it2.at_,H.list v2⟩) fun h' tk kk=>wpAny_execs_nil (q _ _ _ _ _ _ (v2.step it2 kk))
end
theorem Yhx:hdB (Zqh Yag) (Zm 9)=true:=by kernel_rfl
theorem Zgz:Rm tL F4 ((Zm 1).take 7)=true:=by kernel_rfl
theorem Zgx:Rm tL Kx ((Zm 10).take 4)=true:=by kernel_rfl
noncomputable def Yaj (st:Stmt):Bool:=F2 st fun v _=>kSo v fun e=>R9 e fun c _ _=>kCb c fun b=>b
theorem Zg0{st:Stmt}(h:Yaj st=true){M:Stmt→Prop}(f:∀k q p,M (.Return (some (.Constant (.bool true) k q)) p)):M st:=Kr h fun v p h=>S6 (M':=fun v=>M (.Return v p)) h fun e h=>Xh (M:=fun e=>M (.Return (some e) p)) h fun c k q h=>Zg9 (M:=fun c=>M (.Return (some (.Constant c k q)) p)) h fun b h=>h ▸ f k q p
theorem Zt6:hdB Yaj (Zm 17)=true:=by kernel_rfl
theorem Room.le{A:Around}{d d':Nat}(r:Room A d)(h:d'≤d):Room A d':=⟨r.1,rc5 r.2.1 h,rc5 r.2.2 h⟩
noncomputable def loR (u:V):Zd:=[some u,some (.loc (.id 2)),none,none,none,none,none,none,none]
theorem Bh{u x:V}{j:Nat}(h:(loR u)[j]? =some (some x)){M:Nat→V→Prop}(k:M 0 u)(k':M 1 (.loc (.id 2))):M j x:=by
 have N:∀{j},(loR u)[j]? =some none→(loR u)[j]? =some (some x)→M j x:=fun a b=>nn (sj (a.symm.trans b));rcases Nat.lt_or_ge j 9 with z |z
 ·exact Xp (n:=9) (p:=fun j=>(loR u)[j]? =some (some x)→M j x) ⟨⟨⟨⟨⟨⟨⟨⟨⟨trivial,fun e=>sj (sj e) ▸ k⟩,fun e=>sj (sj e) ▸ k'⟩,N rfl⟩,N rfl⟩,N rfl⟩,N rfl⟩,N rfl⟩,N rfl⟩,N rfl⟩ z h
 ·exact nn ((List.getElem?_eq_none (l:=loR u) z).symm.trans h)
theorem Bg{x:V}{j:Nat}(h:loE[j]? =some (some x)){P:Prop}:P:=by
 have N:∀{j:Nat},loE[j]? =some none→loE[j]? =some (some x)→P:=fun a b=>nn (sj (a.symm.trans b));rcases Nat.lt_or_ge j 9 with z |z
 ·exact Xp (n:=9) (p:=fun j=>loE[j]? =some (some x)→P) ⟨⟨⟨⟨⟨⟨⟨⟨⟨trivial,N rfl⟩,N rfl⟩,N rfl⟩,N rfl⟩,N rfl⟩,N rfl⟩,N rfl⟩,N rfl⟩,N rfl⟩ z h
 ·exact nn ((List.getElem?_eq_none (l:=loE) z).symm.trans h)
theorem Zy5(u:V){X:Prop}(K:∀lo σ,Ygr u=some (.next,lo,σ)→σ.base=2→σ.next=247→σ.w=none→Xl (Zj Qh σ) 247=true→lo[0]? =some (some u)→lo[1]? =some (some (.loc (.id 2)))→Id (Zj Qh σ)=some ()→X):X:=
 Zym (Zo0 u) fun lo σ e h=>Zl h fun g h=>Za h fun o h1 h=>Za h fun v h2 h=>Zpo (M:=fun v=>o=some v→X) h (fun n h h2=>Zl h fun g2 h=>Za h fun _ h3 h=>Za h fun x h4 h5=>T1 g fun g3 g4 g5 g6=>
  K lo σ e (Nat.eq_of_beq_eq_true g3) (Nat.eq_of_beq_eq_true g4) (Option.isNone_iff_eq_none.mp g5) g6 (h4.trans (congrArg some h5)) (by rw[h1,h2,Nat.eq_of_beq_eq_true g2]) h3) h2
theorem Zt8(old:Nat→Option O)(u:V){X:Prop}(K:∀d W0 lo W w0,Zn2 old u=some (.dat d,W0)→W0.w=some w0→kSs (Tk [] old) (cfM old) 2 Kx (loM u) (V4 W0 w0 d)=some (.next,lo,σP W)→lo[0]? =some (some u)→lo[2]? =some (some (.loc .w))→W.sid=2→W.bnd≤1000→Q4 W.pair=true→X):X:=
 Zym (Zh2 old u) fun lo σ e h=>Za h fun _ h0 h=>Zl h fun g h=>Za h fun W hw h=>Zl h fun g2 h=>Za h fun x h4 h5=>Xy g fun g3 g4 g5=>Xy g2 fun g6 g7 g8=>Zaw e fun d σ1 e1 e=>Za e fun w0 hw0 e=>
  K d σ1 lo W w0 e1 hw0 (e.trans (by rw[G1 g3 g4 g5 hw];rfl)) (h4.trans (congrArg some h5)) (Km h0) (Nat.eq_of_beq_eq_true g6) (Nat.le_of_ble_eq_true g7) g8
section
variable{w:World}{env:Env}{P:Addr→Obj→Prop}{cv:Option Value}{s₁ s:Shared}{A:Around}{val:Int→Int}{ρ:Rho}{old:Nat→Option O}{D:Addr}{items:Array Value}{n:Nat}{nl:List Int}
theorem LI.rebase{σ:St}(v0:val 0=0){u:PyData}{lo:Zd}(h0:lo[0]? =some (some (.dat u)))(h1:lo[1]? =some (some (.loc (.id 2))))(hw:σ.w=none)(hn:σ.next=247)(ho:Xl (Zj Qh σ) 247=true)
 (v:LI (C0 w val) σ ρ env lo P cv s₁ s):LI (CK w [] (Zj Qh σ) val 0) ⟨247,247,[],none⟩ ρ env (loR (.dat u)) P cv s₁ s:=by
 have sm:Ix (C0 w val) (CK w [] (Zj Qh σ) val 0):=⟨v0,v0,rfl,rfl,rfl,rfl,rfl,rfl,rfl⟩;have z:=R.rebase sm v.r hw rfl fun n o e=>Qi ho (hn ▸ v.r.at e) e;rw[hn] at z;exact LI.renew sm z.2 z.1 v fun j x y e=>Bh (M:=fun j x=>∃u0,lo[j]? =some (some u0)∧(VR (C0 w val) σ ρ s.heap u0 y→VR (CK w [] (Zj Qh σ) val 0) ⟨247,247,[],none⟩ ρ s.heap x y)) e ⟨_,h0,fun q=>RdD.staysQ z.2.q q⟩ ⟨_,h1,fun q=>⟨q.1,show 2 < 247 by decide⟩⟩
theorem LI.runsF{C:Cx}{σ σ':St}{lo lo':Zd}{d j k:Nat}{mg mb:Str→Option Value}{cf:Nat→List V→St→Res}(X:Vr C mg mb)(N:Yd C tL env)(hcf:SoundCF C d cf){l:List IS}(ok:Rm tL l ((Zm j).take k)=true)(ev:kSs C.T cf 2 l lo σ=some (.next,lo',σ'))(v:LI C σ ρ env lo P cv s₁ s)
 (Q:Flow→Shared→Prop) (E:Value→Shared→Prop) (rm:Room A d) (q:∀ρ' s',LI C σ' ρ' env lo' P cv s₁ s'→wpAny (model C.prog C.wld) A (execs (Zm (j + k)) env) Q E s'):wpAny (model C.prog C.wld) A (execs (Zm j) env) Q E s:=by
 rw[Ig j k];exact LI.runs X N hcf ok ev v Q E rm q
theorem Zgo(N:∀fx val slack,Yd (CK w fx old val slack) tL env)(hl:Xl old 247=true)(S:Ma old)(H:NumsOk env P D items n nl)(hq:∀q∈nl,0≤q)(hn:nl.length≤4)(v0:val 0=0){W:Wd}(hs:W.sid=2)(hb:W.bnd≤1000)(hp:Q4 W.pair=true)
 (v:LI (CK w [] old val 0) (σP W) ρ env loW P (some (.ref D)) s₁ s) (rm:Room A 60) (Q:Flow→Shared→Prop) (E:Value→Shared→Prop) (q:∀s',(∀b o,P b o→s'.heap.get? b=some o)→Yn s'=Yn s₁→Q (.ret (.bool true)) s'):wpAny (model PW w) A (execs (Zm 15) env) Q E s:=
 (LI.bare (fx':=[]) hl v0 v hs hb hp (ys8 (nl.headD 0))).elim fun ρ1 v1=>
 Ce (M:=fun l=>wpAny (model PW w) A (execs l env) Q E s) Zt4 fun a h=>wpAny_execs_cons (Zoh (by decide) S N H (Nat.le_trans hn (by decide)) v1 h _ _ (rm.le (by decide)) fun ρ2 s2 W2 f2 v2=>
 Ce (M:=fun l=>wpAny (model PW w) A (execs l env) Q E s2) Zt5 fun a h=>wpAny_execs_cons (Zoi hl S N H hq hn (Rq _ _ _) (by decide) f2 v2 h (rm.le (by decide)) _ _ fun fx val slack W ρ s3 v3=>
 Ce (M:=fun l=>wpAny (model PW w) A (execs l env) Q E s3) Zt6 fun a h=>wpAny_execs_cons (Zg0 (M:=fun st=>wpAny (model PW w) A (exec st env) _ E s3) h fun k q1 p=>wpAny_Return_some (wpAny_Constant_bool (q s3 (fun b o h=>(v3.p b o h).1) v3.rest)))))
theorem Zsw(N:∀fx val slack,Yd (CK w fx old val slack) tL env)(hk:env.kindOf ("nums":Str)=some .cell)(hcl:env.cells.lookup ("nums":Str)=some (env.locals + 1))(hl:Xl old 247=true)(S:Ma old){ns:List Int}
 (v:LI (CK w [] old (Ri ns) 0) ⟨247,247,[],none⟩ ρ env (loR (uS ns)) P cv s₁ s) (rm:Room A 60) (Q:Flow→Shared→Prop) (E:Value→Shared→Prop)
 (q:∀s',(∀b o,P b o→s'.heap.get? b=some o)→Yn s'=Yn s₁→Q (.ret (.bool true)) s'):wpAny (model PW w) A (execs (Zm 8) env) Q E s:=by
 have X0:=Zei (w:=w) (fx:=[]) (old:=old) (val:=Ri ns) (slack:=0) rfl Tv (Nat.zero_le _);have NN:=N [] (Ri ns) 0;have r19:=rm.le (d':=19) (by decide);have hcf:SoundCF (CK w [] old (Ri ns) 0) 19 (cfM old):=Xn X0 rfl (fun f F e=>Zqd w [] old (Ri ns) 0 f F e) S 12;refine Ce (M:=fun l=>wpAny (model PW w) A (execs l env) Q E s) Yhw fun a h=>wpAny_execs_cons (Zyo X0 NN h rfl (by decide) v (lo1:=loM (uS ns)) rfl _ _ r19 fun ρ1 s1 v1=> ?_);refine Zt8 old (uS ns) fun d σ1 lo2 W2 w0 m1 hw0 m2 m3 m4 m5 m6 m7=> ?_;refine Ce (M:=fun l=>wpAny (model PW w) A (execs l env) Q E s1) Yhx fun a h=>wpAny_execs_cons (Znz X0 NN hcf h m1 hw0 rfl v1 _ _ r19 fun ρ2 s2 v2=> ?_);refine LI.runsF (j:=10) (k:=4) X0 NN hcf Zgx m2 v2 _ _ r19 fun ρ3 s3 v3=> ?_;refine Ce (M:=fun l=>wpAny (model PW w) A (execs l env) Q E s3) Zt3 fun a h=>wpAny_execs_cons (Zog X0 NN hcl h (cs:=cs4 ns) m3 (Nat.le_trans (Ls ns) (by decide)) v3 _ _ r19 fun ρ4 s4 D items n il v4=> ?_);exact Zgo N hl S ⟨hk,hcl,.inr ⟨rfl,rfl⟩,il⟩ (fun q hq=>(List.mem_map.mp hq).elim fun c z=>z.2 ▸ (X9 _ (m:=1000000007) (by decide)).1) (by rw[List.length_map];exact Ls ns) rfl m5 m6 m7 (v4.weak (Zas m4)) rm Q E fun s' k=>q s' fun b o h=>k b o (.inl h)
end
end Mine
namespace Mine
open PySem PySem.W PySem.Calls PyProof.Rows PySem.SeqAt PySem.W.X
set_option genInjectivity false
section
variable{w:World}{val:Int→Int}{s₁ s:Shared}{fd:FuncData}{a b:Addr}{vs:List Value}{ns:List Int}
theorem Zy2(a:Addr):¬Own (C0 w val) σk0 ρ0 a:=fun z=>z.elim fun l z=>Mm (M:=fun l=>X6 σk0 l→False) z.1 (fun y=>absurd (show 2≤0 from y) (by decide)) (fun y=>absurd (show 2≤1 from y) (by decide)) z.2.1
theorem Hq(Y:(KF w.params).In s₁.heap)(LF:LawFd fd)(hL:s₁.heap.IsList b vs.toArray)(hI:IntsAre vs ns)(hz:vs.length≤1000)
 {m cm:Str→Option Value} (hm:m "script"=some (.ref b)) (x:InCallC s₁ (Vl fd s₁.heap.objs.size a).locals m (Vl fd s₁.heap.objs.size a).cells cm s) {A:Around} (rm:Room A 60) (Q:Flow→Shared→Prop) (E:Value→Shared→Prop)
 (q:∀s',(∀b o,s₁.heap.get? b=some o→s'.heap.get? b=some o)→Yn s'=Yn s₁→Q (.ret (.bool true)) s'):wpAny (model PW w) A (execs (Zm 0) (Vl fd s₁.heap.objs.size a)) Q E s:=by
 have N:∀fx old val slack,Yd (CK w fx old val slack) tL (Vl fd s₁.heap.objs.size a):=fun fx old val slack=>LF.env _ _;have k:=LF.nums s₁.heap.objs.size a;have hnew:=Zv s₁.heap;have hnew1:s₁.heap.get? (s₁.heap.objs.size + 1)=none:=Jj (Nat.le_succ _);have r1:R (C0 w (Ri ns)) σk0 ρ0 s₁.heap:=Ld rfl Y;have off:∀{z},s₁.heap.get? z=none→∀l,Z2 (C0 w (Ri ns)) σk0 l→ρ0 l≠z:=fun hz l dl e=>(r1.there dl).elim fun y hy=>by rw[e,hz] at hy;exact nn hy
 have ne:∀{z c o},s₁.heap.get? z=none→s₁.heap.get? c=some o→c≠z:=fun hz h e=>by rw[e,hz] at h;exact nn h
 have v0:LI (C0 w (Ri ns)) σk0 ρ0 (Vl fd s₁.heap.objs.size a) loE (fun b o=>s₁.heap.get? b=some o) (cm "nums") s₁ s:=
  ⟨Ld rfl (Y.keeps x.toInCall.keep),⟨⟨m,x.toInCall.ns,fun j u e=>Bg e⟩,Zy2 _,off hnew,Yb r1 hnew,Nat.le_refl _⟩,fun c o h=>⟨x.toInCall.keep c o h,ne hnew h,ne hnew1 h,Zy2 _⟩,
    x.toInCall.same.elim fun h' z=>z.elim fun tk e=>by rw[e];rfl,x.cell _ _ k.2,Zy2 _,off hnew1,Yb r1 hnew1⟩
 have X0:=Zei (w:=w) (fx:=[]) (old:=Qh) (val:=Ri ns) (slack:=0) rfl Tv (Nat.zero_le _);have NN:=N [] Qh (Ri ns) 0;refine Ce (M:=fun l=>wpAny (model PW w) A (execs l (Vl fd s₁.heap.objs.size a)) Q E s) Yhv fun a0 h=>wpAny_execs_cons (Zof (ρ:=ρ0) X0 NN h ⟨m,x.toInCall.ns,hm⟩ (hL.at fun o e=>x.toInCall.keep b o e) hI hz v0 _ _ rm fun s1 v1=> ?_);refine Zy5 (uS ns) fun lo σ ev h1 h2 h3 h7 h4 h5 h6=> ?_;refine LI.runsF (j:=1) (k:=7) X0 NN (Vp X0 (fun f F e=>Zqd w [] Qh (Ri ns) 0 f F e) 60) Zgz ev v1 _ _ rm fun ρ2 s2 v2=> ?_;exact Zsw (fun fx val slack=>N fx _ val slack) k.1 k.2 h7 (G2 h6) (LI.rebase rfl h4 h5 h3 h2 h7 v2) rm Q E q
theorem Zgv:((Sw (Zb 224)).posonlyargs,(Sw (Zb 224)).args.map (·.arg),(Sw (Zb 224)).kwonlyargs,(Sw (Zb 224)).vararg,(Sw (Zb 224)).kwarg,(Sw (Zb 224)).defaults)=([],[("script":Str)],[],none,none,[]):=by kernel_rfl
theorem Zt7:lawNs.lookup ("script":Str)=some NameKind.local:=by kernel_rfl
theorem Zgp(Y:(KF w.params).In s₁.heap){o:Obj}(ho:s₁.heap.get? a=some o)(hd:o.data= .func fd)(LF:LawFd fd)(hcode:s₁.heap.CodeRec fd.code fd.qualname)
 (hL:s₁.heap.IsList b vs.toArray) (hI:IntsAre vs ns) (hz:vs.length≤1000) (B:Result→Shared→Prop) (fin:∀s',(∀b o,s₁.heap.get? b=some o→s'.heap.get? b=some o)→Yn s'=Yn s₁→B (.ok (.ret (.bool true))) s'):
 codeAny (model PW w) callerA (.call (.ref a) ⟨[.ref b],[]⟩) B s₁:=by
 have X0:=Zei (w:=w) (fx:=[]) (old:=Qh) (val:=fun _=>0) (slack:=0) rfl Tv (Nat.zero_le _);have pl:=Zgv;rw[← LF.params] at pl;have hk:fd.scope.names.lookup ("script":Str)=some .local:=by rw[LF.scope];exact Zt7
 refine codeAny_call_cells (binds:=[(("script":Str),.ref b)]) (by decide) ho hd (X0.lim _ Y) hcode LF.body
  (Un (xs:=[.ref b]) (ps:=[("script":Str)]) (congrArg (·.1) pl) (congrArg (·.2.1) pl) (congrArg (·.2.2.1) pl) (congrArg (·.2.2.2.1) pl) (congrArg (·.2.2.2.2.1) pl) LF.dflt (by decide +kernel) rfl) LF.clo (fun x hx=>List.mem_singleton.mp hx ▸ .inl hk)
  (fun s x=>Hq (a:=a) Y LF hL hI hz ?_ x ⟨rfl,show 1 + claimMargin + 1 + 3 * 60 + 10 < 1000 by decide,show 4 + 3 + 20 * 60 + 300 < 9900 by decide⟩ _ _ fun s' k e=>fin s' k e) (by rw[LF.scope];exact congrArg (·.1) Hy) (by rw[LF.scope];exact congrArg (·.2.1) Hy) (by rw[LF.scope];exact congrArg (·.2.2) Hy)
 show(if(callEnvC fd s₁.heap.objs.size a).kindOf ("script":Str)=some .local then fun y=>if y=("script":Str) then some (Value.ref b) else none else fun _=>none) ("script":Str)=_;rw[if_pos (show(callEnvC fd s₁.heap.objs.size a).kindOf ("script":Str)=some .local from hk)];exact if_pos rfl
end
theorem Ac(l:List WData):RWx.row.claim.post l (.bool true) l=true:=by kernel_rfl
theorem Hr:Zzz:=by
 intro w s₀ s₁ mg mb G Y a o pm cd doc dV kV ho hd hcode dfl hname hgens args vals as hpre hlay hrd hwl hlo
 wrow_args hpre hlay hrd hwl hlo
 rename_i ns _ _ _ _ _ _ _ b vs _ hL _ _ _ hI _ hn _;have hdv:dV= .none:=dfl.pos.elim (fun h=>h.2) fun h=>absurd (congrArg (·.2.2.2.2.2) Zgv) h.1;refine wpAny_call (Zgp (w:=w) (s₁:=s₁) Y ho hd ⟨rfl,rfl,rfl,rfl,rfl,rfl,hdv⟩ hcode hL hI (by have h1:=hI.length;omega) _ fun s' k e=> ?_);exact⟨.inl ⟨.bool true,.bool true,[],rfl,fun _=>rfl,ReadsW.bool true,Ac _,fun _=>⟨List.nodup_nil,fun _ h=>nomatch h⟩⟩,.of_keep k,congrArg (·.os) e,.of_eq ((congrArg (·.gens) e).trans hgens)⟩
theorem all_ok:RWx.Holds:=Mj Hr
end Mine
theorem PySem.Challenge.cw_xm0272_01_holds : PySem.Challenge.rw_xm0272_01.Holds :=
  Mine.all_ok
