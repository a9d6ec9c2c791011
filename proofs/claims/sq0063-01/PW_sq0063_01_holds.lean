import PyProof.Rows.All
import Wide.All
import OpenK.AllK
import Wide.FinOn
import Lean
import PySem.Challenge.RW_sq0063_01
open PySem PySem.W PyProof.Rows PySem.Calls
set_option Elab.async false
set_option linter.all false
set_option maxRecDepth 100000
set_option maxHeartbeats 0
set_option genSizeOf false
set_option bootstrap.genMatcherCode false
set_option tactic.hygienic false
set_option genCtorIdx false
set_option genInjectivity false
namespace Mine
theorem ap {α:Type} {a:α} {P:Prop} (e:(none:Option α)=some a):P:=nomatch e
theorem aF {α:Type} {a b:α} (e:some a=some b):a=b:=Option.some.inj e
theorem bH {P:Prop} (e:false=true):P:=nomatch e
theorem ag {a b:Bool} (e:(a && b)=true):a=true:=(Bool.and_eq_true_iff.mp e).1
theorem au {a b:Bool} (e:(a && b)=true):b=true:=(Bool.and_eq_true_iff.mp e).2
theorem iO {b:Bool} (e:(!b)=true):b=false:=by cases b with | true=>exact bH e | false=>rfl
theorem cU {α:Type} {b:Bool} {x:Option α} {y:α} (e:(if b=true then x else none)=some y):b=true/\x=some y:=by
 cases b with
 | true=>exact ⟨rfl,e⟩
 | false=>exact ap e
theorem az {α β:Type} {x:Option α} {f:α->Option β} {y:β} (e:x.bind f=some y):∃a,x=some a/\f a=some y:=by
 cases x with
 | none=>exact ap e
 | some a=>exact ⟨a,rfl,e⟩
theorem gU {α β:Type} {x:Option α} {f:α->β} {y:β} (e:x.map f=some y):∃a,x=some a/\f a=y:=by
 cases x with
 | none=>exact ap e
 | some a=>exact ⟨a,rfl,aF e⟩
theorem aD {α:Type} [BEq α] [LawfulBEq α] {a b:α} (e:(a == b)=true):a=b:=eq_of_beq e
@[elab_as_elim] theorem aa {α:Sort _} {a b:α} {P:α->Prop} (e:a=b) (h:P b):P a:=e▸h
section
set_option backward.match.sparseCases false
theorem bc {p:Prop} (h:¬p->False):p:=Classical.byContradiction h
noncomputable abbrev pr:Program:=PySem.Challenge.pw_sq0063_01
noncomputable def Ma (i:Nat):Stmt:=(pr.main.body.drop i).headD (.Pass default)
noncomputable def gF:Stmt->Arguments×List Stmt×Scope
 | .FunctionDef _ args body _ _ _ scope _ _ _=>(args,body,scope)
 | _=>(default,[],default)
noncomputable def cJ (i:Nat):Stmt:=Ma i
noncomputable def jZ (i j:Nat):Stmt:=match Ma i with
 | .ClassDef _ _ _ body _ _ _ _ _ _ _=>(body.drop j).headD (.Pass default)
 | _=>.Pass default
noncomputable abbrev bR (st:Stmt) (name qual:String) (dV pm:Value) (cd:Addr):Obj :=
 ⟨.type "function",none,.func (fnOf (Str.ofString name) (Str.ofString qual) (gF st).1 (gF st).2.1 (gF st).2.2 dV .none .none pm none (.ref cd) .none),#[]⟩
noncomputable abbrev uj (a:Addr) (name:String) (ns:Addr) (sl:Array (Option Value)):Obj :=
 ⟨.type "type",none,.cls { name:=Str.ofString name,bases:=[.type "object"],mro:=[.ref a,.type "object"],ns:=ns,qualname:=Str.ofString name },sl⟩
noncomputable abbrev dE (P:Params) (n:String) (tk:Nat) (v:Value):DictEntry:=⟨PyData.keyHash P (Str.ofString n),.str (Str.ofString n) tk,v⟩
noncomputable def o3 (P:Params):Obj:=⟨.type "dict",none,.dict (dE P "__name__" 165 (.str (Str.ofString "law_sq0063_01") 1430)::dE P "__doc__" 166 (.none)::dE P "__package__" 167 (.none)::dE P "__loader__" 168 (.builtin "__main__.__loader__#opaque")::dE P "__spec__" 169 (.none)::dE P "__annotations__" 170 (.ref 6)::dE P "__builtins__" 171 (.ref 4)::dE P "__file__" 173 (.str (Str.ofString "/claim/cut.py") 172)::dE P "__cached__" 174 (.none)::dE P "_wall" 193 (.ref 21)::dE P "PageError" 223 (.ref 39)::dE P "BadArgument" 239 (.ref 52)::dE P "Overflow" 255 (.ref 64)::dE P "BadFont" 271 (.ref 76)::dE P "TooDeep" 287 (.ref 88)::dE P "UNITY" 291 (.int 65536 290)::dE P "MAX_DIMEN" 297 (.int 1073741823 296)::dE P "MAX_NUMBER" 303 (.int 2147483647 302)::dE P "INF_BAD" 305 (.int 10000 304)::dE P "NORMAL" 310 (.int 0 306)::dE P "FIL" 311 (.int 1 307)::dE P "FILL" 312 (.int 2 308)::dE P "FILLL" 313 (.int 3 309)::dE P "is_whole" 322 (.ref 101)::dE P "check_whole" 329 (.ref 108)::dE P "check_number" 336 (.ref 115)::dE P "check_dimen" 343 (.ref 122)::dE P "rounded" 351 (.ref 129)::dE P "reading" 359 (.ref 136)::dE P "decimal_text" 372 (.ref 143)::dE P "times" 381 (.ref 150)::dE P "times_scaled" 382 (.ref 150)::dE P "over" 392 (.ref 157)::dE P "over_scaled" 393 (.ref 157)::dE P "badness" 402 (.ref 164)::dE P "order_text" 409 (.ref 171)::dE P "part_text" 418 (.ref 178)::dE P "Glue" 520 (.ref 246)::dE P "top_order" 528 (.ref 257)::dE P "Totals" 595 (.ref 309)::dE P "CHAR" 606 (.int 0 598)::dE P "LIGATURE" 607 (.int 1 599)::dE P "HBOX" 608 (.int 2 600)::dE P "VBOX" 609 (.int 3 601)::dE P "RULE" 610 (.int 4 602)::dE P "KERN" 611 (.int 5 603)::dE P "GLUE" 612 (.int 6 604)::dE P "PENALTY" 613 (.int 7 605)::dE P "DISC" 621 (.int 8 614)::dE P "MARK" 622 (.int 9 615)::dE P "INSERT" 623 (.int 10 616)::dE P "ADJUST" 624 (.int 11 617)::dE P "MATH" 625 (.int 12 618)::dE P "SPECIAL" 626 (.int 13 619)::dE P "UNSET" 627 (.int 14 620)::dE P "NATURAL" 631 (.int 0 628)::dE P "STRETCHED" 632 (.int 1 629)::dE P "SHRUNK" 633 (.int 2 630)::dE P "FONT_KERN" 638 (.int 0 634)::dE P "EXPLICIT" 639 (.int 1 635)::dE P "ACCENT_KERN" 640 (.int 2 636)::dE P "MU_KERN" 641 (.int 3 637)::dE P "PLAIN" 649 (.int 0 642)::dE P "ALEADERS" 650 (.int 1 643)::dE P "CLEADERS" 651 (.int 2 644)::dE P "XLEADERS" 652 (.int 3 645)::dE P "MU_SKIP" 653 (.int 4 646)::dE P "NONSCRIPT" 654 (.int 5 647)::dE P "NAMED" 655 (.int 100 648)::dE P "FOR_DEVICE" 660 (.int 0 656)::dE P "WRITING" 661 (.int 1 657)::dE P "OPENING" 662 (.int 2 658)::dE P "CLOSING" 663 (.int 3 659)::dE P "DEEPEST" 665 (.int 60 664)::dE P "check_code" 672 (.ref 344)::dE P "check_short" 680 (.ref 351)::dE P "Char" 712 (.ref 368)::dE P "Box" 753 (.ref 389)::dE P "Rule" 788 (.ref 410)::dE P "Kern" 820 (.ref 431)::dE P "Skip" 854 (.ref 453)::dE P "Penalty" 884 (.ref 474)::dE P "Disc" 918 (.ref 495)::dE P "MathEdge" 950 (.ref 516)::dE P "check_depth" 957 (.ref 527)::dE P "described_special" 963 (.ref 532)::dE P "described_rest" 974 (.ref 539)::dE P "described" 981 (.ref 545)::dE P "described_list" 988 (.ref 551)::dE P "width_of" 994 (.ref 556)::dE P "height_of" 1000 (.ref 561)::dE P "depth_of" 1006 (.ref 566)::dE P "line_height" 1013 (.ref 573)::dE P "line_depth" 1020 (.ref 580)::dE P "EXACTLY" 1025 (.int 0 1023)::dE P "SPREAD" 1026 (.int 1 1024)::dE P "FINE" 1031 (.int 0 1027)::dE P "LOOSE" 1032 (.int 1 1028)::dE P "TIGHT" 1033 (.int 2 1029)::dE P "OVERFULL" 1034 (.int 3 1030)::dE P "natural_line" 1045 (.ref 595)::dE P "check_column" 1053 (.ref 602)::dE P "quotient" 1061 (.ref 609)::dE P "set_glue" 1072 (.ref 616)::dE P "flex" 1080 (.ref 623)::dE P "set_part" 1088 (.ref 630)::dE P "part_size" 1096 (.ref 637)::dE P "places" 1107 (.ref 644)::dE P "moved" 1117 (.ref 651)::dE P "goal_size" 1126 (.ref 658)::dE P "set_box" 1136 (.ref 665)::dE P "hpack" 1154 (.ref 673)::dE P "EDGE" 1158 (.int 256 1157)::dE P "MOST_FONTS" 1160 (.int 255 1159)::dE P "MOST_PARAMS" 1162 (.int 64 1161)::dE P "MOST_SIZE" 1168 (.int 134217727 1167)::dE P "PLAIN_SORT" 1173 (.int 0 1169)::dE P "PROGRAM_SORT" 1174 (.int 1 1170)::dE P "LARGER_SORT" 1175 (.int 2 1171)::dE P "PIECES_SORT" 1176 (.int 3 1172)::dE P "STOP_SKIP" 1180 (.int 128 1177)::dE P "KERN_OP" 1181 (.int 128 1178)::dE P "LEAD" 1182 (.int 255 1179)::dE P "NO_CHARACTER" 1189 (.ref 682)::dE P "LETTERS" 1191 (.str (Str.ofString "abcdefghjklmnopqrstuvwxyz") 1190)::dE P "SMALL_PARAMS" 1199 (.ref 683)::dE P "is_size" 1206 (.ref 690)::dE P "check_sizes" 1214 (.ref 697)::dE P "check_pieces" 1224 (.ref 704)::dE P "check_chars" 1236 (.ref 711)::dE P "check_larger" 1246 (.ref 718)::dE P "check_program" 1264 (.ref 725)::dE P "left_start" 1275 (.ref 732)::dE P "Font" 1406 (.ref 822)::dE P "font_name" 1415 (.ref 833)::dE P "font_of_rows" 1429 (.ref 843)::dE P "_law_heap" 1440 (.ref 850)::dE P "_law_take" 1449 (.ref 857)::dE P "_law_size" 1457 (.ref 864)::dE P "_law_part" 1468 (.ref 871)::dE P "_law_mixed" 1478 (.ref 878)::dE P "_law_told" 1487 (.ref 885)::dE P "_law_run" 1497 (.ref 892)::dE P "_law_flat" 1506 (.ref 899)::dE P "law" 1512 (.ref 904)::[]).toArray 145,#[]⟩
noncomputable def Jd (P:Params):Obj:=⟨.type "code",none,.fields #[.str (Str.ofString "is_whole") 314,.str (Str.ofString "is_whole") 315,.str (Str.ofString "/claim/cut.py") 316,.int 23 0,.int 3 0,.int 0 0,.int 0 0,.int 3 0,.ref 95,.bool true,.int 181 0,.ref 96,.none,.ref 97,.ref 98,.ref 99,.int 320 0,.int 23 0,.str (Str.ofString "/claim/cut.py") 321],#[]⟩
noncomputable def I8 (P:Params):Obj:=bR (cJ 13) "is_whole" "is_whole" (.none) (.str (Str.ofString "gluepage.scaled") 288) 100
noncomputable def LD (P:Params):Obj:=⟨.type "code",none,.fields #[.str (Str.ofString "check_whole") 323,.str (Str.ofString "check_whole") 324,.str (Str.ofString "/claim/cut.py") 325,.int 25 0,.int 1 0,.int 0 0,.int 0 0,.int 3 0,.ref 102,.bool true,.int 181 0,.ref 103,.none,.ref 104,.ref 105,.ref 106,.int 327 0,.int 25 0,.str (Str.ofString "/claim/cut.py") 328],#[]⟩
noncomputable def LW (P:Params):Obj:=bR (cJ 14) "check_whole" "check_whole" (.none) (.str (Str.ofString "gluepage.scaled") 288) 107
noncomputable def HR (P:Params):Obj:=⟨.type "code",none,.fields #[.str (Str.ofString "check_number") 330,.str (Str.ofString "check_number") 331,.str (Str.ofString "/claim/cut.py") 332,.int 29 0,.int 1 0,.int 0 0,.int 0 0,.int 3 0,.ref 109,.bool true,.int 181 0,.ref 110,.none,.ref 111,.ref 112,.ref 113,.int 334 0,.int 29 0,.str (Str.ofString "/claim/cut.py") 335],#[]⟩
noncomputable def H7 (P:Params):Obj:=bR (cJ 15) "check_number" "check_number" (.none) (.str (Str.ofString "gluepage.scaled") 288) 114
noncomputable def KQ (P:Params):Obj:=⟨.type "code",none,.fields #[.str (Str.ofString "check_dimen") 337,.str (Str.ofString "check_dimen") 338,.str (Str.ofString "/claim/cut.py") 339,.int 33 0,.int 1 0,.int 0 0,.int 0 0,.int 3 0,.ref 116,.bool true,.int 181 0,.ref 117,.none,.ref 118,.ref 119,.ref 120,.int 341 0,.int 33 0,.str (Str.ofString "/claim/cut.py") 342],#[]⟩
noncomputable def LF (P:Params):Obj:=bR (cJ 16) "check_dimen" "check_dimen" (.none) (.str (Str.ofString "gluepage.scaled") 288) 121
noncomputable def Hp (P:Params):Obj:=⟨.type "code",none,.fields #[.str (Str.ofString "rounded") 344,.str (Str.ofString "rounded") 345,.str (Str.ofString "/claim/cut.py") 346,.int 37 0,.int 2 0,.int 0 0,.int 0 0,.int 3 0,.ref 123,.bool true,.int 181 0,.ref 124,.none,.ref 125,.ref 126,.ref 127,.int 349 0,.int 37 0,.str (Str.ofString "/claim/cut.py") 350],#[]⟩
noncomputable def KK (P:Params):Obj:=bR (cJ 17) "rounded" "rounded" (.none) (.str (Str.ofString "gluepage.scaled") 288) 128
noncomputable def I6 (P:Params):Obj:=⟨.type "code",none,.fields #[.str (Str.ofString "badness") 394,.str (Str.ofString "badness") 395,.str (Str.ofString "/claim/cut.py") 396,.int 69 0,.int 2 0,.int 0 0,.int 0 0,.int 3 0,.ref 158,.bool true,.int 181 0,.ref 159,.none,.ref 160,.ref 161,.ref 162,.int 400 0,.int 69 0,.str (Str.ofString "/claim/cut.py") 401],#[]⟩
noncomputable def LK (P:Params):Obj:=bR (cJ 24) "badness" "badness" (.none) (.str (Str.ofString "gluepage.scaled") 288) 163
noncomputable def Il (P:Params):Obj:=⟨.type "tuple",none,.seq #[.int 0 431,.int 0 432,.int 0 433,.int 0 434,.int 0 435] 0,#[]⟩
noncomputable def I0 (P:Params):Obj:=⟨.type "code",none,.fields #[.str (Str.ofString "__init__") 436,.str (Str.ofString "Glue.__init__") 437,.str (Str.ofString "/claim/cut.py") 438,.int 91 0,.int 6 0,.int 0 0,.int 0 0,.int 3 0,.ref 187,.bool true,.int 181 0,.ref 188,.none,.ref 189,.ref 190,.ref 191,.int 445 0,.int 91 0,.str (Str.ofString "/claim/cut.py") 446],#[]⟩
noncomputable def Lr (P:Params):Obj:=bR (jZ 27 0) "__init__" "Glue.__init__" (.ref 186) (.str (Str.ofString "gluepage.scaled") 288) 192
noncomputable def Lu (P:Params):Obj:=⟨.type "code",none,.fields #[.str (Str.ofString "parts") 448,.str (Str.ofString "Glue.parts") 449,.str (Str.ofString "/claim/cut.py") 450,.int 100 0,.int 1 0,.int 0 0,.int 0 0,.int 3 0,.ref 194,.bool true,.int 181 0,.ref 195,.none,.ref 196,.ref 197,.ref 198,.int 452 0,.int 100 0,.str (Str.ofString "/claim/cut.py") 453],#[]⟩
noncomputable def I7 (P:Params):Obj:=bR (jZ 27 1) "parts" "Glue.parts" (.none) (.str (Str.ofString "gluepage.scaled") 288) 199
noncomputable def Hm (P:Params):Obj:=⟨.type "dict",none,.dict (dE P "__module__" 426 (.str (Str.ofString "gluepage.scaled") 288)::dE P "__firstlineno__" 430 (.int 89 429)::dE P "__init__" 447 (.ref 193)::dE P "parts" 454 (.ref 200)::dE P "same" 462 (.ref 207)::dE P "added" 470 (.ref 214)::dE P "times" 480 (.ref 221)::dE P "over" 490 (.ref 228)::dE P "negated" 497 (.ref 235)::dE P "text" 507 (.ref 243)::dE P "__static_attributes__" 513 (.ref 244)::dE P "__dict__" 515 (.ref 247)::dE P "__weakref__" 517 (.ref 248)::dE P "__doc__" 518 (.none)::[]).toArray 4,#[]⟩
noncomputable def JS (P:Params):Obj:=uj 246 "Glue" 245 #[none,none,some (.str (Str.ofString "Glue") 419),some (.str (Str.ofString "Glue") 427),some (.builtin "object.__new__"),some (.bool true)]
noncomputable def HE (P:Params):Obj:=⟨.type "code",none,.fields #[.str (Str.ofString "top_order") 521,.str (Str.ofString "top_order") 522,.str (Str.ofString "/claim/cut.py") 523,.int 127 0,.int 1 0,.int 0 0,.int 0 0,.int 3 0,.ref 251,.bool true,.int 181 0,.ref 252,.none,.ref 253,.ref 254,.ref 255,.int 526 0,.int 127 0,.str (Str.ofString "/claim/cut.py") 527],#[]⟩
noncomputable def Kh (P:Params):Obj:=bR (cJ 28) "top_order" "top_order" (.none) (.str (Str.ofString "gluepage.scaled") 288) 256
noncomputable def IO (P:Params):Obj:=⟨.type "code",none,.fields #[.str (Str.ofString "__init__") 541,.str (Str.ofString "Totals.__init__") 542,.str (Str.ofString "/claim/cut.py") 543,.int 134 0,.int 1 0,.int 0 0,.int 0 0,.int 3 0,.ref 265,.bool true,.int 181 0,.ref 266,.none,.ref 267,.ref 268,.ref 269,.int 545 0,.int 134 0,.str (Str.ofString "/claim/cut.py") 546],#[]⟩
noncomputable def KZ (P:Params):Obj:=bR (jZ 29 0) "__init__" "Totals.__init__" (.none) (.str (Str.ofString "gluepage.scaled") 288) 270
noncomputable def IL (P:Params):Obj:=⟨.type "code",none,.fields #[.str (Str.ofString "add") 548,.str (Str.ofString "Totals.add") 549,.str (Str.ofString "/claim/cut.py") 550,.int 139 0,.int 2 0,.int 0 0,.int 0 0,.int 3 0,.ref 272,.bool true,.int 181 0,.ref 273,.none,.ref 274,.ref 275,.ref 276,.int 553 0,.int 139 0,.str (Str.ofString "/claim/cut.py") 554],#[]⟩
noncomputable def Ka (P:Params):Obj:=bR (jZ 29 1) "add" "Totals.add" (.none) (.str (Str.ofString "gluepage.scaled") 288) 277
noncomputable def HG (P:Params):Obj:=⟨.type "code",none,.fields #[.str (Str.ofString "widen") 556,.str (Str.ofString "Totals.widen") 557,.str (Str.ofString "/claim/cut.py") 558,.int 144 0,.int 2 0,.int 0 0,.int 0 0,.int 3 0,.ref 279,.bool true,.int 181 0,.ref 280,.none,.ref 281,.ref 282,.ref 283,.int 561 0,.int 144 0,.str (Str.ofString "/claim/cut.py") 562],#[]⟩
noncomputable def K1 (P:Params):Obj:=bR (jZ 29 2) "widen" "Totals.widen" (.none) (.str (Str.ofString "gluepage.scaled") 288) 284
noncomputable def Kw (P:Params):Obj:=⟨.type "code",none,.fields #[.str (Str.ofString "stretch_top") 564,.str (Str.ofString "Totals.stretch_top") 565,.str (Str.ofString "/claim/cut.py") 566,.int 147 0,.int 1 0,.int 0 0,.int 0 0,.int 3 0,.ref 286,.bool true,.int 181 0,.ref 287,.none,.ref 288,.ref 289,.ref 290,.int 568 0,.int 147 0,.str (Str.ofString "/claim/cut.py") 569],#[]⟩
noncomputable def J8 (P:Params):Obj:=bR (jZ 29 3) "stretch_top" "Totals.stretch_top" (.none) (.str (Str.ofString "gluepage.scaled") 288) 291
noncomputable def HM (P:Params):Obj:=⟨.type "code",none,.fields #[.str (Str.ofString "shrink_top") 571,.str (Str.ofString "Totals.shrink_top") 572,.str (Str.ofString "/claim/cut.py") 573,.int 150 0,.int 1 0,.int 0 0,.int 0 0,.int 3 0,.ref 293,.bool true,.int 181 0,.ref 294,.none,.ref 295,.ref 296,.ref 297,.int 575 0,.int 150 0,.str (Str.ofString "/claim/cut.py") 576],#[]⟩
noncomputable def HY (P:Params):Obj:=bR (jZ 29 4) "shrink_top" "Totals.shrink_top" (.none) (.str (Str.ofString "gluepage.scaled") 288) 298
noncomputable def Kj (P:Params):Obj:=⟨.type "dict",none,.dict (dE P "__module__" 536 (.str (Str.ofString "gluepage.scaled") 288)::dE P "__firstlineno__" 540 (.int 132 539)::dE P "__init__" 547 (.ref 271)::dE P "add" 555 (.ref 278)::dE P "widen" 563 (.ref 285)::dE P "stretch_top" 570 (.ref 292)::dE P "shrink_top" 577 (.ref 299)::dE P "copy" 584 (.ref 306)::dE P "__static_attributes__" 588 (.ref 307)::dE P "__dict__" 590 (.ref 310)::dE P "__weakref__" 592 (.ref 311)::dE P "__doc__" 593 (.none)::[]).toArray 4,#[]⟩
noncomputable def Hj (P:Params):Obj:=uj 309 "Totals" 308 #[none,none,some (.str (Str.ofString "Totals") 529),some (.str (Str.ofString "Totals") 537),some (.builtin "object.__new__"),some (.bool true)]
noncomputable def JY (P:Params):Obj:=⟨.type "code",none,.fields #[.str (Str.ofString "check_code") 666,.str (Str.ofString "check_code") 667,.str (Str.ofString "/claim/cut.py") 668,.int 163 0,.int 1 0,.int 0 0,.int 0 0,.int 3 0,.ref 338,.bool true,.int 181 0,.ref 339,.none,.ref 340,.ref 341,.ref 342,.int 670 0,.int 163 0,.str (Str.ofString "/claim/cut.py") 671],#[]⟩
noncomputable def Jv (P:Params):Obj:=bR (cJ 38) "check_code" "check_code" (.none) (.str (Str.ofString "gluepage.nodes") 596) 343
noncomputable def KH (P:Params):Obj:=⟨.type "code",none,.fields #[.str (Str.ofString "check_short") 673,.str (Str.ofString "check_short") 674,.str (Str.ofString "/claim/cut.py") 675,.int 167 0,.int 1 0,.int 0 0,.int 0 0,.int 3 0,.ref 345,.bool true,.int 181 0,.ref 346,.none,.ref 347,.ref 348,.ref 349,.int 678 0,.int 167 0,.str (Str.ofString "/claim/cut.py") 679],#[]⟩
noncomputable def KE (P:Params):Obj:=bR (cJ 39) "check_short" "check_short" (.none) (.str (Str.ofString "gluepage.nodes") 596) 350
noncomputable def Jr (P:Params):Obj:=⟨.type "code",none,.fields #[.str (Str.ofString "__init__") 694,.str (Str.ofString "Char.__init__") 695,.str (Str.ofString "/claim/cut.py") 696,.int 175 0,.int 3 0,.int 0 0,.int 0 0,.int 3 0,.ref 359,.bool true,.int 181 0,.ref 360,.none,.ref 361,.ref 362,.ref 363,.int 700 0,.int 175 0,.str (Str.ofString "/claim/cut.py") 701],#[]⟩
noncomputable def K8 (P:Params):Obj:=bR (jZ 40 1) "__init__" "Char.__init__" (.none) (.str (Str.ofString "gluepage.nodes") 596) 364
noncomputable def Le (P:Params):Obj:=⟨.type "dict",none,.dict (dE P "__module__" 688 (.str (Str.ofString "gluepage.nodes") 596)::dE P "__firstlineno__" 692 (.int 172 691)::dE P "kind" 693 (.int 0 598)::dE P "__init__" 702 (.ref 365)::dE P "__static_attributes__" 705 (.ref 366)::dE P "__dict__" 707 (.ref 369)::dE P "__weakref__" 709 (.ref 370)::dE P "__doc__" 710 (.none)::[]).toArray 4,#[]⟩
noncomputable def Lv (P:Params):Obj:=uj 368 "Char" 367 #[none,none,some (.str (Str.ofString "Char") 681),some (.str (Str.ofString "Char") 689),some (.builtin "object.__new__"),some (.bool true)]
noncomputable def Hs (P:Params):Obj:=⟨.type "code",none,.fields #[.str (Str.ofString "__init__") 725,.str (Str.ofString "Box.__init__") 726,.str (Str.ofString "/claim/cut.py") 727,.int 180 0,.int 6 0,.int 0 0,.int 0 0,.int 3 0,.ref 380,.bool true,.int 181 0,.ref 381,.none,.ref 382,.ref 383,.ref 384,.int 734 0,.int 180 0,.str (Str.ofString "/claim/cut.py") 735],#[]⟩
noncomputable def IJ (P:Params):Obj:=bR (jZ 41 0) "__init__" "Box.__init__" (.none) (.str (Str.ofString "gluepage.nodes") 596) 385
noncomputable def Hg (P:Params):Obj:=⟨.type "dict",none,.dict (dE P "__module__" 720 (.str (Str.ofString "gluepage.nodes") 596)::dE P "__firstlineno__" 724 (.int 178 723)::dE P "__init__" 736 (.ref 386)::dE P "__static_attributes__" 746 (.ref 387)::dE P "__dict__" 748 (.ref 390)::dE P "__weakref__" 750 (.ref 391)::dE P "__doc__" 751 (.none)::[]).toArray 4,#[]⟩
noncomputable def HJ (P:Params):Obj:=uj 389 "Box" 388 #[none,none,some (.str (Str.ofString "Box") 713),some (.str (Str.ofString "Box") 721),some (.builtin "object.__new__"),some (.bool true)]
noncomputable def Ku (P:Params):Obj:=⟨.type "code",none,.fields #[.str (Str.ofString "__init__") 767,.str (Str.ofString "Rule.__init__") 768,.str (Str.ofString "/claim/cut.py") 769,.int 195 0,.int 4 0,.int 0 0,.int 0 0,.int 3 0,.ref 401,.bool true,.int 181 0,.ref 402,.none,.ref 403,.ref 404,.ref 405,.int 775 0,.int 195 0,.str (Str.ofString "/claim/cut.py") 776],#[]⟩
noncomputable def KD (P:Params):Obj:=bR (jZ 42 1) "__init__" "Rule.__init__" (.none) (.str (Str.ofString "gluepage.nodes") 596) 406
noncomputable def Je (P:Params):Obj:=⟨.type "dict",none,.dict (dE P "__module__" 761 (.str (Str.ofString "gluepage.nodes") 596)::dE P "__firstlineno__" 765 (.int 192 764)::dE P "kind" 766 (.int 4 602)::dE P "__init__" 777 (.ref 407)::dE P "__static_attributes__" 781 (.ref 408)::dE P "__dict__" 783 (.ref 411)::dE P "__weakref__" 785 (.ref 412)::dE P "__doc__" 786 (.none)::[]).toArray 4,#[]⟩
noncomputable def LP (P:Params):Obj:=uj 410 "Rule" 409 #[none,none,some (.str (Str.ofString "Rule") 754),some (.str (Str.ofString "Rule") 762),some (.builtin "object.__new__"),some (.bool true)]
noncomputable def LH (P:Params):Obj:=⟨.type "code",none,.fields #[.str (Str.ofString "__init__") 802,.str (Str.ofString "Kern.__init__") 803,.str (Str.ofString "/claim/cut.py") 804,.int 205 0,.int 3 0,.int 0 0,.int 0 0,.int 3 0,.ref 422,.bool true,.int 181 0,.ref 423,.none,.ref 424,.ref 425,.ref 426,.int 808 0,.int 205 0,.str (Str.ofString "/claim/cut.py") 809],#[]⟩
noncomputable def Lo (P:Params):Obj:=bR (jZ 43 1) "__init__" "Kern.__init__" (.none) (.str (Str.ofString "gluepage.nodes") 596) 427
noncomputable def IM (P:Params):Obj:=⟨.type "dict",none,.dict (dE P "__module__" 796 (.str (Str.ofString "gluepage.nodes") 596)::dE P "__firstlineno__" 800 (.int 202 799)::dE P "kind" 801 (.int 5 603)::dE P "__init__" 810 (.ref 428)::dE P "__static_attributes__" 813 (.ref 429)::dE P "__dict__" 815 (.ref 432)::dE P "__weakref__" 817 (.ref 433)::dE P "__doc__" 818 (.none)::[]).toArray 4,#[]⟩
noncomputable def Lp (P:Params):Obj:=uj 431 "Kern" 430 #[none,none,some (.str (Str.ofString "Kern") 789),some (.str (Str.ofString "Kern") 797),some (.builtin "object.__new__"),some (.bool true)]
noncomputable def LO (P:Params):Obj:=⟨.type "tuple",none,.seq #[.none] 0,#[]⟩
noncomputable def H4 (P:Params):Obj:=⟨.type "code",none,.fields #[.str (Str.ofString "__init__") 834,.str (Str.ofString "Skip.__init__") 835,.str (Str.ofString "/claim/cut.py") 836,.int 213 0,.int 4 0,.int 0 0,.int 0 0,.int 3 0,.ref 444,.bool true,.int 181 0,.ref 445,.none,.ref 446,.ref 447,.ref 448,.int 841 0,.int 213 0,.str (Str.ofString "/claim/cut.py") 842],#[]⟩
noncomputable def Ig (P:Params):Obj:=bR (jZ 44 1) "__init__" "Skip.__init__" (.ref 443) (.str (Str.ofString "gluepage.nodes") 596) 449
noncomputable def Jw (P:Params):Obj:=⟨.type "dict",none,.dict (dE P "__module__" 828 (.str (Str.ofString "gluepage.nodes") 596)::dE P "__firstlineno__" 832 (.int 210 831)::dE P "kind" 833 (.int 6 604)::dE P "__init__" 843 (.ref 450)::dE P "__static_attributes__" 847 (.ref 451)::dE P "__dict__" 849 (.ref 454)::dE P "__weakref__" 851 (.ref 455)::dE P "__doc__" 852 (.none)::[]).toArray 4,#[]⟩
noncomputable def KT (P:Params):Obj:=uj 453 "Skip" 452 #[none,none,some (.str (Str.ofString "Skip") 821),some (.str (Str.ofString "Skip") 829),some (.builtin "object.__new__"),some (.bool true)]
noncomputable def Hl (P:Params):Obj:=⟨.type "code",none,.fields #[.str (Str.ofString "__init__") 868,.str (Str.ofString "Penalty.__init__") 869,.str (Str.ofString "/claim/cut.py") 870,.int 226 0,.int 2 0,.int 0 0,.int 0 0,.int 3 0,.ref 465,.bool true,.int 181 0,.ref 466,.none,.ref 467,.ref 468,.ref 469,.int 873 0,.int 226 0,.str (Str.ofString "/claim/cut.py") 874],#[]⟩
noncomputable def IG (P:Params):Obj:=bR (jZ 45 1) "__init__" "Penalty.__init__" (.none) (.str (Str.ofString "gluepage.nodes") 596) 470
noncomputable def IZ (P:Params):Obj:=⟨.type "dict",none,.dict (dE P "__module__" 862 (.str (Str.ofString "gluepage.nodes") 596)::dE P "__firstlineno__" 866 (.int 223 865)::dE P "kind" 867 (.int 7 605)::dE P "__init__" 875 (.ref 471)::dE P "__static_attributes__" 877 (.ref 472)::dE P "__dict__" 879 (.ref 475)::dE P "__weakref__" 881 (.ref 476)::dE P "__doc__" 882 (.none)::[]).toArray 4,#[]⟩
noncomputable def I5 (P:Params):Obj:=uj 474 "Penalty" 473 #[none,none,some (.str (Str.ofString "Penalty") 855),some (.str (Str.ofString "Penalty") 863),some (.builtin "object.__new__"),some (.bool true)]
noncomputable def LX (P:Params):Obj:=⟨.type "code",none,.fields #[.str (Str.ofString "__init__") 898,.str (Str.ofString "Disc.__init__") 899,.str (Str.ofString "/claim/cut.py") 900,.int 231 0,.int 4 0,.int 0 0,.int 0 0,.int 3 0,.ref 486,.bool true,.int 181 0,.ref 487,.none,.ref 488,.ref 489,.ref 490,.int 905 0,.int 231 0,.str (Str.ofString "/claim/cut.py") 906],#[]⟩
noncomputable def Kr (P:Params):Obj:=bR (jZ 46 1) "__init__" "Disc.__init__" (.none) (.str (Str.ofString "gluepage.nodes") 596) 491
noncomputable def JA (P:Params):Obj:=⟨.type "dict",none,.dict (dE P "__module__" 892 (.str (Str.ofString "gluepage.nodes") 596)::dE P "__firstlineno__" 896 (.int 228 895)::dE P "kind" 897 (.int 8 614)::dE P "__init__" 907 (.ref 492)::dE P "__static_attributes__" 911 (.ref 493)::dE P "__dict__" 913 (.ref 496)::dE P "__weakref__" 915 (.ref 497)::dE P "__doc__" 916 (.none)::[]).toArray 4,#[]⟩
noncomputable def Lb (P:Params):Obj:=uj 495 "Disc" 494 #[none,none,some (.str (Str.ofString "Disc") 885),some (.str (Str.ofString "Disc") 893),some (.builtin "object.__new__"),some (.bool true)]
noncomputable def Ic (P:Params):Obj:=⟨.type "code",none,.fields #[.str (Str.ofString "__init__") 932,.str (Str.ofString "MathEdge.__init__") 933,.str (Str.ofString "/claim/cut.py") 934,.int 238 0,.int 3 0,.int 0 0,.int 0 0,.int 3 0,.ref 507,.bool true,.int 181 0,.ref 508,.none,.ref 509,.ref 510,.ref 511,.int 938 0,.int 238 0,.str (Str.ofString "/claim/cut.py") 939],#[]⟩
noncomputable def JP (P:Params):Obj:=bR (jZ 47 1) "__init__" "MathEdge.__init__" (.none) (.str (Str.ofString "gluepage.nodes") 596) 512
noncomputable def HV (P:Params):Obj:=⟨.type "dict",none,.dict (dE P "__module__" 926 (.str (Str.ofString "gluepage.nodes") 596)::dE P "__firstlineno__" 930 (.int 235 929)::dE P "kind" 931 (.int 12 618)::dE P "__init__" 940 (.ref 513)::dE P "__static_attributes__" 943 (.ref 514)::dE P "__dict__" 945 (.ref 517)::dE P "__weakref__" 947 (.ref 518)::dE P "__doc__" 948 (.none)::[]).toArray 4,#[]⟩
noncomputable def Ij (P:Params):Obj:=uj 516 "MathEdge" 515 #[none,none,some (.str (Str.ofString "MathEdge") 919),some (.str (Str.ofString "MathEdge") 927),some (.builtin "object.__new__"),some (.bool true)]
noncomputable def LQ (P:Params):Obj:=⟨.type "code",none,.fields #[.str (Str.ofString "check_depth") 951,.str (Str.ofString "check_depth") 952,.str (Str.ofString "/claim/cut.py") 953,.int 241 0,.int 1 0,.int 0 0,.int 0 0,.int 3 0,.ref 521,.bool true,.int 181 0,.ref 522,.none,.ref 523,.ref 524,.ref 525,.int 955 0,.int 241 0,.str (Str.ofString "/claim/cut.py") 956],#[]⟩
noncomputable def H8 (P:Params):Obj:=bR (cJ 48) "check_depth" "check_depth" (.none) (.str (Str.ofString "gluepage.nodes") 596) 526
noncomputable def I3 (P:Params):Obj:=⟨.type "code",none,.fields #[.str (Str.ofString "described_rest") 964,.str (Str.ofString "described_rest") 965,.str (Str.ofString "/claim/cut.py") 966,.int 250 0,.int 2 0,.int 0 0,.int 0 0,.int 3 0,.ref 533,.bool true,.int 181 0,.ref 534,.none,.ref 535,.ref 536,.ref 537,.int 972 0,.int 250 0,.str (Str.ofString "/claim/cut.py") 973],#[]⟩
noncomputable def KS (P:Params):Obj:=bR (cJ 50) "described_rest" "described_rest" (.none) (.str (Str.ofString "gluepage.nodes") 596) 538
noncomputable def JR (P:Params):Obj:=⟨.type "tuple",none,.seq #[.int 0 975] 0,#[]⟩
noncomputable def Hb (P:Params):Obj:=⟨.type "code",none,.fields #[.str (Str.ofString "described") 976,.str (Str.ofString "described") 977,.str (Str.ofString "/claim/cut.py") 978,.int 265 0,.int 2 0,.int 0 0,.int 0 0,.int 3 0,.ref 541,.bool true,.int 181 0,.ref 542,.none,.none,.none,.ref 543,.int 979 0,.int 265 0,.str (Str.ofString "/claim/cut.py") 980],#[]⟩
noncomputable def KL (P:Params):Obj:=bR (cJ 51) "described" "described" (.ref 540) (.str (Str.ofString "gluepage.nodes") 596) 544
noncomputable def Kq (P:Params):Obj:=⟨.type "tuple",none,.seq #[.int 0 982] 0,#[]⟩
noncomputable def GY (P:Params):Obj:=⟨.type "code",none,.fields #[.str (Str.ofString "described_list") 983,.str (Str.ofString "described_list") 984,.str (Str.ofString "/claim/cut.py") 985,.int 288 0,.int 2 0,.int 0 0,.int 0 0,.int 3 0,.ref 547,.bool true,.int 181 0,.ref 548,.none,.none,.none,.ref 549,.int 986 0,.int 288 0,.str (Str.ofString "/claim/cut.py") 987],#[]⟩
noncomputable def Hc (P:Params):Obj:=bR (cJ 52) "described_list" "described_list" (.ref 546) (.str (Str.ofString "gluepage.nodes") 596) 550
noncomputable def Ie (P:Params):Obj:=⟨.type "code",none,.fields #[.str (Str.ofString "width_of") 989,.str (Str.ofString "width_of") 990,.str (Str.ofString "/claim/cut.py") 991,.int 290 0,.int 1 0,.int 0 0,.int 0 0,.int 3 0,.ref 552,.bool true,.int 181 0,.ref 553,.none,.none,.none,.ref 554,.int 992 0,.int 290 0,.str (Str.ofString "/claim/cut.py") 993],#[]⟩
noncomputable def HU (P:Params):Obj:=bR (cJ 53) "width_of" "width_of" (.none) (.str (Str.ofString "gluepage.nodes") 596) 555
noncomputable def Lm (P:Params):Obj:=⟨.type "code",none,.fields #[.str (Str.ofString "height_of") 995,.str (Str.ofString "height_of") 996,.str (Str.ofString "/claim/cut.py") 997,.int 303 0,.int 1 0,.int 0 0,.int 0 0,.int 3 0,.ref 557,.bool true,.int 181 0,.ref 558,.none,.none,.none,.ref 559,.int 998 0,.int 303 0,.str (Str.ofString "/claim/cut.py") 999],#[]⟩
noncomputable def Ih (P:Params):Obj:=bR (cJ 54) "height_of" "height_of" (.none) (.str (Str.ofString "gluepage.nodes") 596) 560
noncomputable def JI (P:Params):Obj:=⟨.type "code",none,.fields #[.str (Str.ofString "depth_of") 1001,.str (Str.ofString "depth_of") 1002,.str (Str.ofString "/claim/cut.py") 1003,.int 316 0,.int 1 0,.int 0 0,.int 0 0,.int 3 0,.ref 562,.bool true,.int 181 0,.ref 563,.none,.none,.none,.ref 564,.int 1004 0,.int 316 0,.str (Str.ofString "/claim/cut.py") 1005],#[]⟩
noncomputable def IT (P:Params):Obj:=bR (cJ 55) "depth_of" "depth_of" (.none) (.str (Str.ofString "gluepage.nodes") 596) 565
noncomputable def Ht (P:Params):Obj:=⟨.type "code",none,.fields #[.str (Str.ofString "line_height") 1007,.str (Str.ofString "line_height") 1008,.str (Str.ofString "/claim/cut.py") 1009,.int 329 0,.int 1 0,.int 0 0,.int 0 0,.int 3 0,.ref 567,.bool true,.int 181 0,.ref 568,.none,.ref 569,.ref 570,.ref 571,.int 1011 0,.int 329 0,.str (Str.ofString "/claim/cut.py") 1012],#[]⟩
noncomputable def GZ (P:Params):Obj:=bR (cJ 56) "line_height" "line_height" (.none) (.str (Str.ofString "gluepage.nodes") 596) 572
noncomputable def H0 (P:Params):Obj:=⟨.type "code",none,.fields #[.str (Str.ofString "line_depth") 1014,.str (Str.ofString "line_depth") 1015,.str (Str.ofString "/claim/cut.py") 1016,.int 333 0,.int 1 0,.int 0 0,.int 0 0,.int 3 0,.ref 574,.bool true,.int 181 0,.ref 575,.none,.ref 576,.ref 577,.ref 578,.int 1018 0,.int 333 0,.str (Str.ofString "/claim/cut.py") 1019],#[]⟩
noncomputable def KR (P:Params):Obj:=bR (cJ 57) "line_depth" "line_depth" (.none) (.str (Str.ofString "gluepage.nodes") 596) 579
noncomputable def Hy (P:Params):Obj:=⟨.type "code",none,.fields #[.str (Str.ofString "natural_line") 1035,.str (Str.ofString "natural_line") 1036,.str (Str.ofString "/claim/cut.py") 1037,.int 340 0,.int 1 0,.int 0 0,.int 0 0,.int 3 0,.ref 589,.bool true,.int 181 0,.ref 590,.none,.ref 591,.ref 592,.ref 593,.int 1043 0,.int 340 0,.str (Str.ofString "/claim/cut.py") 1044],#[]⟩
noncomputable def IW (P:Params):Obj:=bR (cJ 61) "natural_line" "natural_line" (.none) (.str (Str.ofString "gluepage.packing") 1021) 594
noncomputable def JX (P:Params):Obj:=⟨.type "code",none,.fields #[.str (Str.ofString "quotient") 1054,.str (Str.ofString "quotient") 1055,.str (Str.ofString "/claim/cut.py") 1056,.int 355 0,.int 2 0,.int 0 0,.int 0 0,.int 3 0,.ref 603,.bool true,.int 181 0,.ref 604,.none,.ref 605,.ref 606,.ref 607,.int 1059 0,.int 355 0,.str (Str.ofString "/claim/cut.py") 1060],#[]⟩
noncomputable def Hi (P:Params):Obj:=bR (cJ 63) "quotient" "quotient" (.none) (.str (Str.ofString "gluepage.packing") 1021) 608
noncomputable def KC (P:Params):Obj:=⟨.type "code",none,.fields #[.str (Str.ofString "set_glue") 1062,.str (Str.ofString "set_glue") 1063,.str (Str.ofString "/claim/cut.py") 1064,.int 357 0,.int 2 0,.int 0 0,.int 0 0,.int 3 0,.ref 610,.bool true,.int 181 0,.ref 611,.none,.ref 612,.ref 613,.ref 614,.int 1070 0,.int 357 0,.str (Str.ofString "/claim/cut.py") 1071],#[]⟩
noncomputable def Jc (P:Params):Obj:=bR (cJ 64) "set_glue" "set_glue" (.none) (.str (Str.ofString "gluepage.packing") 1021) 615
noncomputable def Hf (P:Params):Obj:=⟨.type "code",none,.fields #[.str (Str.ofString "flex") 1073,.str (Str.ofString "flex") 1074,.str (Str.ofString "/claim/cut.py") 1075,.int 372 0,.int 2 0,.int 0 0,.int 0 0,.int 3 0,.ref 617,.bool true,.int 181 0,.ref 618,.none,.ref 619,.ref 620,.ref 621,.int 1078 0,.int 372 0,.str (Str.ofString "/claim/cut.py") 1079],#[]⟩
noncomputable def I4 (P:Params):Obj:=bR (cJ 65) "flex" "flex" (.none) (.str (Str.ofString "gluepage.packing") 1021) 622
noncomputable def IH (P:Params):Obj:=⟨.type "code",none,.fields #[.str (Str.ofString "set_part") 1081,.str (Str.ofString "set_part") 1082,.str (Str.ofString "/claim/cut.py") 1083,.int 378 0,.int 2 0,.int 0 0,.int 0 0,.int 3 0,.ref 624,.bool true,.int 181 0,.ref 625,.none,.ref 626,.ref 627,.ref 628,.int 1086 0,.int 378 0,.str (Str.ofString "/claim/cut.py") 1087],#[]⟩
noncomputable def LA (P:Params):Obj:=bR (cJ 66) "set_part" "set_part" (.none) (.str (Str.ofString "gluepage.packing") 1021) 629
noncomputable def JM (P:Params):Obj:=⟨.type "code",none,.fields #[.str (Str.ofString "part_size") 1089,.str (Str.ofString "part_size") 1090,.str (Str.ofString "/claim/cut.py") 1091,.int 380 0,.int 2 0,.int 0 0,.int 0 0,.int 3 0,.ref 631,.bool true,.int 181 0,.ref 632,.none,.ref 633,.ref 634,.ref 635,.int 1094 0,.int 380 0,.str (Str.ofString "/claim/cut.py") 1095],#[]⟩
noncomputable def Jj (P:Params):Obj:=bR (cJ 67) "part_size" "part_size" (.none) (.str (Str.ofString "gluepage.packing") 1021) 636
noncomputable def KM (P:Params):Obj:=⟨.type "code",none,.fields #[.str (Str.ofString "places") 1097,.str (Str.ofString "places") 1098,.str (Str.ofString "/claim/cut.py") 1099,.int 384 0,.int 1 0,.int 0 0,.int 0 0,.int 3 0,.ref 638,.bool true,.int 181 0,.ref 639,.none,.ref 640,.ref 641,.ref 642,.int 1105 0,.int 384 0,.str (Str.ofString "/claim/cut.py") 1106],#[]⟩
noncomputable def Jn (P:Params):Obj:=bR (cJ 68) "places" "places" (.none) (.str (Str.ofString "gluepage.packing") 1021) 643
noncomputable def JE (P:Params):Obj:=⟨.type "code",none,.fields #[.str (Str.ofString "goal_size") 1118,.str (Str.ofString "goal_size") 1119,.str (Str.ofString "/claim/cut.py") 1120,.int 407 0,.int 3 0,.int 0 0,.int 0 0,.int 3 0,.ref 652,.bool true,.int 181 0,.ref 653,.none,.ref 654,.ref 655,.ref 656,.int 1124 0,.int 407 0,.str (Str.ofString "/claim/cut.py") 1125],#[]⟩
noncomputable def Ke (P:Params):Obj:=bR (cJ 70) "goal_size" "goal_size" (.none) (.str (Str.ofString "gluepage.packing") 1021) 657
noncomputable def LY (P:Params):Obj:=⟨.type "code",none,.fields #[.str (Str.ofString "set_box") 1127,.str (Str.ofString "set_box") 1128,.str (Str.ofString "/claim/cut.py") 1129,.int 412 0,.int 3 0,.int 0 0,.int 0 0,.int 3 0,.ref 659,.bool true,.int 181 0,.ref 660,.none,.ref 661,.ref 662,.ref 663,.int 1134 0,.int 412 0,.str (Str.ofString "/claim/cut.py") 1135],#[]⟩
noncomputable def LI (P:Params):Obj:=bR (cJ 71) "set_box" "set_box" (.none) (.str (Str.ofString "gluepage.packing") 1021) 664
noncomputable def IF (P:Params):Obj:=⟨.type "tuple",none,.seq #[.int 1 1024,.int 0 1137,.none] 0,#[]⟩
noncomputable def JJ (P:Params):Obj:=⟨.type "code",none,.fields #[.str (Str.ofString "hpack") 1138,.str (Str.ofString "hpack") 1139,.str (Str.ofString "/claim/cut.py") 1140,.int 415 0,.int 4 0,.int 0 0,.int 0 0,.int 3 0,.ref 667,.bool true,.int 181 0,.ref 668,.none,.ref 669,.ref 670,.ref 671,.int 1152 0,.int 415 0,.str (Str.ofString "/claim/cut.py") 1153],#[]⟩
noncomputable def IK (P:Params):Obj:=bR (cJ 72) "hpack" "hpack" (.ref 666) (.str (Str.ofString "gluepage.packing") 1021) 672
noncomputable def J0 (P:Params):Obj:=⟨.type "tuple",none,.seq #[.int 0 1183,.int 0 1184,.int 0 1185,.int 0 1186,.int 0 1187,.int 0 1188] 0,#[]⟩
noncomputable def Lj (P:Params):Obj:=⟨.type "tuple",none,.seq #[.int 0 1192,.int 196608 1193,.int 98304 1194,.int 65536 1195,.int 262144 1196,.int 655360 1197,.int 65536 1198] 0,#[]⟩
noncomputable def LM (P:Params):Obj:=⟨.type "code",none,.fields #[.str (Str.ofString "is_size") 1200,.str (Str.ofString "is_size") 1201,.str (Str.ofString "/claim/cut.py") 1202,.int 433 0,.int 1 0,.int 0 0,.int 0 0,.int 3 0,.ref 684,.bool true,.int 181 0,.ref 685,.none,.ref 686,.ref 687,.ref 688,.int 1204 0,.int 433 0,.str (Str.ofString "/claim/cut.py") 1205],#[]⟩
noncomputable def GT (P:Params):Obj:=bR (cJ 83) "is_size" "is_size" (.none) (.str (Str.ofString "gluepage.fonts") 1155) 689
noncomputable def IA (P:Params):Obj:=⟨.type "code",none,.fields #[.str (Str.ofString "check_sizes") 1207,.str (Str.ofString "check_sizes") 1208,.str (Str.ofString "/claim/cut.py") 1209,.int 435 0,.int 1 0,.int 0 0,.int 0 0,.int 3 0,.ref 691,.bool true,.int 181 0,.ref 692,.none,.ref 693,.ref 694,.ref 695,.int 1212 0,.int 435 0,.str (Str.ofString "/claim/cut.py") 1213],#[]⟩
noncomputable def HF (P:Params):Obj:=bR (cJ 84) "check_sizes" "check_sizes" (.none) (.str (Str.ofString "gluepage.fonts") 1155) 696
noncomputable def Kt (P:Params):Obj:=⟨.type "code",none,.fields #[.str (Str.ofString "check_chars") 1225,.str (Str.ofString "check_chars") 1226,.str (Str.ofString "/claim/cut.py") 1227,.int 445 0,.int 2 0,.int 0 0,.int 0 0,.int 3 0,.ref 705,.bool true,.int 181 0,.ref 706,.none,.ref 707,.ref 708,.ref 709,.int 1234 0,.int 445 0,.str (Str.ofString "/claim/cut.py") 1235],#[]⟩
noncomputable def Ju (P:Params):Obj:=bR (cJ 86) "check_chars" "check_chars" (.none) (.str (Str.ofString "gluepage.fonts") 1155) 710
noncomputable def HA (P:Params):Obj:=⟨.type "code",none,.fields #[.str (Str.ofString "check_larger") 1237,.str (Str.ofString "check_larger") 1238,.str (Str.ofString "/claim/cut.py") 1239,.int 457 0,.int 1 0,.int 0 0,.int 0 0,.int 3 0,.ref 712,.bool true,.int 181 0,.ref 713,.none,.ref 714,.ref 715,.ref 716,.int 1244 0,.int 457 0,.str (Str.ofString "/claim/cut.py") 1245],#[]⟩
noncomputable def HS (P:Params):Obj:=bR (cJ 87) "check_larger" "check_larger" (.none) (.str (Str.ofString "gluepage.fonts") 1155) 717
noncomputable def H3 (P:Params):Obj:=⟨.type "code",none,.fields #[.str (Str.ofString "check_program") 1247,.str (Str.ofString "check_program") 1248,.str (Str.ofString "/claim/cut.py") 1249,.int 465 0,.int 4 0,.int 0 0,.int 0 0,.int 3 0,.ref 719,.bool true,.int 181 0,.ref 720,.none,.ref 721,.ref 722,.ref 723,.int 1262 0,.int 465 0,.str (Str.ofString "/claim/cut.py") 1263],#[]⟩
noncomputable def Jl (P:Params):Obj:=bR (cJ 88) "check_program" "check_program" (.none) (.str (Str.ofString "gluepage.fonts") 1155) 724
noncomputable def K3 (P:Params):Obj:=⟨.type "code",none,.fields #[.str (Str.ofString "left_start") 1265,.str (Str.ofString "left_start") 1266,.str (Str.ofString "/claim/cut.py") 1267,.int 484 0,.int 1 0,.int 0 0,.int 0 0,.int 3 0,.ref 726,.bool true,.int 181 0,.ref 727,.none,.ref 728,.ref 729,.ref 730,.int 1273 0,.int 484 0,.str (Str.ofString "/claim/cut.py") 1274],#[]⟩
noncomputable def Kz (P:Params):Obj:=bR (cJ 89) "left_start" "left_start" (.none) (.str (Str.ofString "gluepage.fonts") 1155) 731
noncomputable def HZ (P:Params):Obj:=⟨.type "tuple",none,.seq #[.ref 740,.ref 741,.int 256 1157] 0,#[]⟩
noncomputable def Ir (P:Params):Obj:=⟨.type "code",none,.fields #[.str (Str.ofString "__init__") 1288,.str (Str.ofString "Font.__init__") 1289,.str (Str.ofString "/claim/cut.py") 1290,.int 491 0,.int 9 0,.int 0 0,.int 0 0,.int 3 0,.ref 743,.bool true,.int 181 0,.ref 744,.none,.ref 745,.ref 746,.ref 747,.int 1300 0,.int 491 0,.str (Str.ofString "/claim/cut.py") 1301],#[]⟩
noncomputable def KN (P:Params):Obj:=bR (jZ 90 0) "__init__" "Font.__init__" (.ref 742) (.str (Str.ofString "gluepage.fonts") 1155) 748
noncomputable def Hw (P:Params):Obj:=⟨.type "code",none,.fields #[.str (Str.ofString "width") 1311,.str (Str.ofString "Font.width") 1312,.str (Str.ofString "/claim/cut.py") 1313,.int 518 0,.int 2 0,.int 0 0,.int 0 0,.int 3 0,.ref 757,.bool true,.int 181 0,.ref 758,.none,.ref 759,.ref 760,.ref 761,.int 1316 0,.int 518 0,.str (Str.ofString "/claim/cut.py") 1317],#[]⟩
noncomputable def JU (P:Params):Obj:=bR (jZ 90 2) "width" "Font.width" (.none) (.str (Str.ofString "gluepage.fonts") 1155) 762
noncomputable def G4 (P:Params):Obj:=⟨.type "code",none,.fields #[.str (Str.ofString "height") 1319,.str (Str.ofString "Font.height") 1320,.str (Str.ofString "/claim/cut.py") 1321,.int 521 0,.int 2 0,.int 0 0,.int 0 0,.int 3 0,.ref 764,.bool true,.int 181 0,.ref 765,.none,.ref 766,.ref 767,.ref 768,.int 1324 0,.int 521 0,.str (Str.ofString "/claim/cut.py") 1325],#[]⟩
noncomputable def KA (P:Params):Obj:=bR (jZ 90 3) "height" "Font.height" (.none) (.str (Str.ofString "gluepage.fonts") 1155) 769
noncomputable def Hn (P:Params):Obj:=⟨.type "code",none,.fields #[.str (Str.ofString "depth") 1327,.str (Str.ofString "Font.depth") 1328,.str (Str.ofString "/claim/cut.py") 1329,.int 524 0,.int 2 0,.int 0 0,.int 0 0,.int 3 0,.ref 771,.bool true,.int 181 0,.ref 772,.none,.ref 773,.ref 774,.ref 775,.int 1332 0,.int 524 0,.str (Str.ofString "/claim/cut.py") 1333],#[]⟩
noncomputable def LB (P:Params):Obj:=bR (jZ 90 4) "depth" "Font.depth" (.none) (.str (Str.ofString "gluepage.fonts") 1155) 776
noncomputable def Kf (P:Params):Obj:=⟨.type "dict",none,.dict (dE P "__module__" 1283 (.str (Str.ofString "gluepage.fonts") 1155)::dE P "__firstlineno__" 1287 (.int 489 1286)::dE P "__init__" 1302 (.ref 749)::dE P "has" 1310 (.ref 756)::dE P "width" 1318 (.ref 763)::dE P "height" 1326 (.ref 770)::dE P "depth" 1334 (.ref 777)::dE P "italic" 1342 (.ref 784)::dE P "starts" 1350 (.ref 791)::dE P "larger" 1359 (.ref 798)::dE P "pieces" 1368 (.ref 805)::dE P "param" 1376 (.ref 812)::dE P "set_param" 1385 (.ref 819)::dE P "__static_attributes__" 1399 (.ref 820)::dE P "__dict__" 1401 (.ref 823)::dE P "__weakref__" 1403 (.ref 824)::dE P "__doc__" 1404 (.none)::[]).toArray 4,#[]⟩
noncomputable def I1 (P:Params):Obj:=uj 822 "Font" 821 #[none,none,some (.str (Str.ofString "Font") 1276),some (.str (Str.ofString "Font") 1284),some (.builtin "object.__new__"),some (.bool true)]
noncomputable def LT (P:Params):Obj:=⟨.type "code",none,.fields #[.str (Str.ofString "font_name") 1407,.str (Str.ofString "font_name") 1408,.str (Str.ofString "/claim/cut.py") 1409,.int 546 0,.int 1 0,.int 0 0,.int 0 0,.int 3 0,.ref 827,.bool true,.int 181 0,.ref 828,.none,.ref 829,.ref 830,.ref 831,.int 1413 0,.int 546 0,.str (Str.ofString "/claim/cut.py") 1414],#[]⟩
noncomputable def HD (P:Params):Obj:=bR (cJ 91) "font_name" "font_name" (.none) (.str (Str.ofString "gluepage.fonts") 1155) 832
noncomputable def HP (P:Params):Obj:=⟨.type "tuple",none,.seq #[] 0,#[]⟩
noncomputable def JW (P:Params):Obj:=⟨.type "tuple",none,.seq #[] 0,#[]⟩
noncomputable def IU (P:Params):Obj:=⟨.type "tuple",none,.seq #[.ref 683,.ref 834,.ref 835,.int 256 1157] 0,#[]⟩
noncomputable def Iz (P:Params):Obj:=⟨.type "code",none,.fields #[.str (Str.ofString "font_of_rows") 1416,.str (Str.ofString "font_of_rows") 1417,.str (Str.ofString "/claim/cut.py") 1418,.int 553 0,.int 6 0,.int 0 0,.int 0 0,.int 3 0,.ref 837,.bool true,.int 181 0,.ref 838,.none,.ref 839,.ref 840,.ref 841,.int 1427 0,.int 553 0,.str (Str.ofString "/claim/cut.py") 1428],#[]⟩
noncomputable def G8 (P:Params):Obj:=bR (cJ 92) "font_of_rows" "font_of_rows" (.ref 836) (.str (Str.ofString "gluepage.fonts") 1155) 842
noncomputable def GU (P:Params):Obj:=⟨.type "code",none,.fields #[.str (Str.ofString "_law_heap") 1432,.str (Str.ofString "_law_heap") 1433,.str (Str.ofString "/claim/cut.py") 1434,.int 563 0,.int 1 0,.int 0 0,.int 0 0,.int 3 0,.ref 844,.bool true,.int 181 0,.ref 845,.none,.ref 846,.ref 847,.ref 848,.int 1438 0,.int 563 0,.str (Str.ofString "/claim/cut.py") 1439],#[]⟩
noncomputable def Li (P:Params):Obj:=bR (cJ 94) "_law_heap" "_law_heap" (.none) (.str (Str.ofString "law_sq0063_01") 1430) 849
noncomputable def Kk (P:Params):Obj:=⟨.type "code",none,.fields #[.str (Str.ofString "_law_take") 1441,.str (Str.ofString "_law_take") 1442,.str (Str.ofString "/claim/cut.py") 1443,.int 568 0,.int 2 0,.int 0 0,.int 0 0,.int 3 0,.ref 851,.bool true,.int 181 0,.ref 852,.none,.ref 853,.ref 854,.ref 855,.int 1447 0,.int 568 0,.str (Str.ofString "/claim/cut.py") 1448],#[]⟩
noncomputable def J9 (P:Params):Obj:=bR (cJ 95) "_law_take" "_law_take" (.none) (.str (Str.ofString "law_sq0063_01") 1430) 856
noncomputable def LR (P:Params):Obj:=⟨.type "code",none,.fields #[.str (Str.ofString "_law_size") 1450,.str (Str.ofString "_law_size") 1451,.str (Str.ofString "/claim/cut.py") 1452,.int 575 0,.int 1 0,.int 0 0,.int 0 0,.int 3 0,.ref 858,.bool true,.int 181 0,.ref 859,.none,.ref 860,.ref 861,.ref 862,.int 1455 0,.int 575 0,.str (Str.ofString "/claim/cut.py") 1456],#[]⟩
noncomputable def Hh (P:Params):Obj:=bR (cJ 96) "_law_size" "_law_size" (.none) (.str (Str.ofString "law_sq0063_01") 1430) 863
noncomputable def JL (P:Params):Obj:=⟨.type "code",none,.fields #[.str (Str.ofString "_law_part") 1458,.str (Str.ofString "_law_part") 1459,.str (Str.ofString "/claim/cut.py") 1460,.int 580 0,.int 3 0,.int 0 0,.int 0 0,.int 3 0,.ref 865,.bool true,.int 181 0,.ref 866,.none,.ref 867,.ref 868,.ref 869,.int 1466 0,.int 580 0,.str (Str.ofString "/claim/cut.py") 1467],#[]⟩
noncomputable def Jq (P:Params):Obj:=bR (cJ 97) "_law_part" "_law_part" (.none) (.str (Str.ofString "law_sq0063_01") 1430) 870
noncomputable def G3 (P:Params):Obj:=⟨.type "code",none,.fields #[.str (Str.ofString "_law_mixed") 1469,.str (Str.ofString "_law_mixed") 1470,.str (Str.ofString "/claim/cut.py") 1471,.int 597 0,.int 2 0,.int 0 0,.int 0 0,.int 3 0,.ref 872,.bool true,.int 181 0,.ref 873,.none,.ref 874,.ref 875,.ref 876,.int 1476 0,.int 597 0,.str (Str.ofString "/claim/cut.py") 1477],#[]⟩
noncomputable def Ky (P:Params):Obj:=bR (cJ 98) "_law_mixed" "_law_mixed" (.none) (.str (Str.ofString "law_sq0063_01") 1430) 877
noncomputable def IS (P:Params):Obj:=⟨.type "code",none,.fields #[.str (Str.ofString "_law_told") 1479,.str (Str.ofString "_law_told") 1480,.str (Str.ofString "/claim/cut.py") 1481,.int 602 0,.int 1 0,.int 0 0,.int 0 0,.int 3 0,.ref 879,.bool true,.int 181 0,.ref 880,.none,.ref 881,.ref 882,.ref 883,.int 1485 0,.int 602 0,.str (Str.ofString "/claim/cut.py") 1486],#[]⟩
noncomputable def Jh (P:Params):Obj:=bR (cJ 99) "_law_told" "_law_told" (.none) (.str (Str.ofString "law_sq0063_01") 1430) 884
noncomputable def Kp (P:Params):Obj:=⟨.type "code",none,.fields #[.str (Str.ofString "_law_run") 1488,.str (Str.ofString "_law_run") 1489,.str (Str.ofString "/claim/cut.py") 1490,.int 605 0,.int 2 0,.int 0 0,.int 0 0,.int 3 0,.ref 886,.bool true,.int 181 0,.ref 887,.none,.ref 888,.ref 889,.ref 890,.int 1495 0,.int 605 0,.str (Str.ofString "/claim/cut.py") 1496],#[]⟩
noncomputable def Jx (P:Params):Obj:=bR (cJ 100) "_law_run" "_law_run" (.none) (.str (Str.ofString "law_sq0063_01") 1430) 891
noncomputable def G6 (P:Params):Obj:=⟨.type "code",none,.fields #[.str (Str.ofString "_law_flat") 1498,.str (Str.ofString "_law_flat") 1499,.str (Str.ofString "/claim/cut.py") 1500,.int 611 0,.int 1 0,.int 0 0,.int 0 0,.int 3 0,.ref 893,.bool true,.int 181 0,.ref 894,.none,.ref 895,.ref 896,.ref 897,.int 1504 0,.int 611 0,.str (Str.ofString "/claim/cut.py") 1505],#[]⟩
noncomputable def Ii (P:Params):Obj:=bR (cJ 101) "_law_flat" "_law_flat" (.none) (.str (Str.ofString "law_sq0063_01") 1430) 898
noncomputable def KG (P:Params):Obj:=⟨.type "code",none,.fields #[.str (Str.ofString "law") 1507,.str (Str.ofString "law") 1508,.str (Str.ofString "/claim/cut.py") 1509,.int 616 0,.int 1 0,.int 0 0,.int 0 0,.int 3 0,.ref 900,.bool true,.int 181 0,.ref 901,.none,.none,.none,.ref 902,.int 1510 0,.int 616 0,.str (Str.ofString "/claim/cut.py") 1511],#[]⟩
noncomputable def KV (P:Params):Obj:=bR (cJ 102) "law" "law" (.none) (.str (Str.ofString "law_sq0063_01") 1430) 903
noncomputable def K (P:Params):Frag:=(nat_lit 3,o3 P)::(nat_lit 100,Jd P)::(nat_lit 101,I8 P)::(nat_lit 107,LD P)::(nat_lit 108,LW P)::(nat_lit 114,HR P)::(nat_lit 115,H7 P)::(nat_lit 121,KQ P)::(nat_lit 122,LF P)::(nat_lit 128,Hp P)::(nat_lit 129,KK P)::(nat_lit 163,I6 P)::(nat_lit 164,LK P)::(nat_lit 186,Il P)::(nat_lit 192,I0 P)::(nat_lit 193,Lr P)::(nat_lit 199,Lu P)::(nat_lit 200,I7 P)::(nat_lit 245,Hm P)::(nat_lit 246,JS P)::(nat_lit 256,HE P)::(nat_lit 257,Kh P)::(nat_lit 270,IO P)::(nat_lit 271,KZ P)::(nat_lit 277,IL P)::(nat_lit 278,Ka P)::(nat_lit 284,HG P)::(nat_lit 285,K1 P)::(nat_lit 291,Kw P)::(nat_lit 292,J8 P)::(nat_lit 298,HM P)::(nat_lit 299,HY P)::(nat_lit 308,Kj P)::(nat_lit 309,Hj P)::(nat_lit 343,JY P)::(nat_lit 344,Jv P)::(nat_lit 350,KH P)::(nat_lit 351,KE P)::(nat_lit 364,Jr P)::(nat_lit 365,K8 P)::(nat_lit 367,Le P)::(nat_lit 368,Lv P)::(nat_lit 385,Hs P)::(nat_lit 386,IJ P)::(nat_lit 388,Hg P)::(nat_lit 389,HJ P)::(nat_lit 406,Ku P)::(nat_lit 407,KD P)::(nat_lit 409,Je P)::(nat_lit 410,LP P)::(nat_lit 427,LH P)::(nat_lit 428,Lo P)::(nat_lit 430,IM P)::(nat_lit 431,Lp P)::(nat_lit 443,LO P)::(nat_lit 449,H4 P)::(nat_lit 450,Ig P)::(nat_lit 452,Jw P)::(nat_lit 453,KT P)::(nat_lit 470,Hl P)::(nat_lit 471,IG P)::(nat_lit 473,IZ P)::(nat_lit 474,I5 P)::(nat_lit 491,LX P)::(nat_lit 492,Kr P)::(nat_lit 494,JA P)::(nat_lit 495,Lb P)::(nat_lit 512,Ic P)::(nat_lit 513,JP P)::(nat_lit 515,HV P)::(nat_lit 516,Ij P)::(nat_lit 526,LQ P)::(nat_lit 527,H8 P)::(nat_lit 538,I3 P)::(nat_lit 539,KS P)::(nat_lit 540,JR P)::(nat_lit 544,Hb P)::(nat_lit 545,KL P)::(nat_lit 546,Kq P)::(nat_lit 550,GY P)::(nat_lit 551,Hc P)::(nat_lit 555,Ie P)::(nat_lit 556,HU P)::(nat_lit 560,Lm P)::(nat_lit 561,Ih P)::(nat_lit 565,JI P)::(nat_lit 566,IT P)::(nat_lit 572,Ht P)::(nat_lit 573,GZ P)::(nat_lit 579,H0 P)::(nat_lit 580,KR P)::(nat_lit 594,Hy P)::(nat_lit 595,IW P)::(nat_lit 608,JX P)::(nat_lit 609,Hi P)::(nat_lit 615,KC P)::(nat_lit 616,Jc P)::(nat_lit 622,Hf P)::(nat_lit 623,I4 P)::(nat_lit 629,IH P)::(nat_lit 630,LA P)::(nat_lit 636,JM P)::(nat_lit 637,Jj P)::(nat_lit 643,KM P)::(nat_lit 644,Jn P)::(nat_lit 657,JE P)::(nat_lit 658,Ke P)::(nat_lit 664,LY P)::(nat_lit 665,LI P)::(nat_lit 666,IF P)::(nat_lit 672,JJ P)::(nat_lit 673,IK P)::(nat_lit 682,J0 P)::(nat_lit 683,Lj P)::(nat_lit 689,LM P)::(nat_lit 690,GT P)::(nat_lit 696,IA P)::(nat_lit 697,HF P)::(nat_lit 710,Kt P)::(nat_lit 711,Ju P)::(nat_lit 717,HA P)::(nat_lit 718,HS P)::(nat_lit 724,H3 P)::(nat_lit 725,Jl P)::(nat_lit 731,K3 P)::(nat_lit 732,Kz P)::(nat_lit 742,HZ P)::(nat_lit 748,Ir P)::(nat_lit 749,KN P)::(nat_lit 762,Hw P)::(nat_lit 763,JU P)::(nat_lit 769,G4 P)::(nat_lit 770,KA P)::(nat_lit 776,Hn P)::(nat_lit 777,LB P)::(nat_lit 821,Kf P)::(nat_lit 822,I1 P)::(nat_lit 832,LT P)::(nat_lit 833,HD P)::(nat_lit 834,HP P)::(nat_lit 835,JW P)::(nat_lit 836,IU P)::(nat_lit 842,Iz P)::(nat_lit 843,G8 P)::(nat_lit 849,GU P)::(nat_lit 850,Li P)::(nat_lit 856,Kk P)::(nat_lit 857,J9 P)::(nat_lit 863,LR P)::(nat_lit 864,Hh P)::(nat_lit 870,JL P)::(nat_lit 871,Jq P)::(nat_lit 877,G3 P)::(nat_lit 878,Ky P)::(nat_lit 884,IS P)::(nat_lit 885,Jh P)::(nat_lit 891,Kp P)::(nat_lit 892,Jx P)::(nat_lit 898,G6 P)::(nat_lit 899,Ii P)::(nat_lit 903,KG P)::(nat_lit 904,KV P)::[]
noncomputable def Cf:List Addr:=nat_lit 3::nat_lit 100::nat_lit 101::nat_lit 107::nat_lit 108::nat_lit 114::nat_lit 115::nat_lit 121::nat_lit 122::nat_lit 128::nat_lit 129::nat_lit 163::nat_lit 164::nat_lit 186::nat_lit 192::nat_lit 193::nat_lit 199::nat_lit 200::nat_lit 245::nat_lit 246::nat_lit 256::nat_lit 257::nat_lit 270::nat_lit 271::nat_lit 277::nat_lit 278::nat_lit 284::nat_lit 285::nat_lit 291::nat_lit 292::nat_lit 298::nat_lit 299::nat_lit 308::nat_lit 309::nat_lit 343::nat_lit 344::nat_lit 350::nat_lit 351::nat_lit 364::nat_lit 365::nat_lit 367::nat_lit 368::nat_lit 385::nat_lit 386::nat_lit 388::nat_lit 389::nat_lit 406::nat_lit 407::nat_lit 409::nat_lit 410::nat_lit 427::nat_lit 428::nat_lit 430::nat_lit 431::nat_lit 443::nat_lit 449::nat_lit 450::nat_lit 452::nat_lit 453::nat_lit 470::nat_lit 471::nat_lit 473::nat_lit 474::nat_lit 491::nat_lit 492::nat_lit 494::nat_lit 495::nat_lit 512::nat_lit 513::nat_lit 515::nat_lit 516::nat_lit 526::nat_lit 527::nat_lit 538::nat_lit 539::nat_lit 540::nat_lit 544::nat_lit 545::nat_lit 546::nat_lit 550::nat_lit 551::nat_lit 555::nat_lit 556::nat_lit 560::nat_lit 561::nat_lit 565::nat_lit 566::nat_lit 572::nat_lit 573::nat_lit 579::nat_lit 580::nat_lit 594::nat_lit 595::nat_lit 608::nat_lit 609::nat_lit 615::nat_lit 616::nat_lit 622::nat_lit 623::nat_lit 629::nat_lit 630::nat_lit 636::nat_lit 637::nat_lit 643::nat_lit 644::nat_lit 657::nat_lit 658::nat_lit 664::nat_lit 665::nat_lit 666::nat_lit 672::nat_lit 673::nat_lit 682::nat_lit 683::nat_lit 689::nat_lit 690::nat_lit 696::nat_lit 697::nat_lit 710::nat_lit 711::nat_lit 717::nat_lit 718::nat_lit 724::nat_lit 725::nat_lit 731::nat_lit 732::nat_lit 742::nat_lit 748::nat_lit 749::nat_lit 762::nat_lit 763::nat_lit 769::nat_lit 770::nat_lit 776::nat_lit 777::nat_lit 821::nat_lit 822::nat_lit 832::nat_lit 833::nat_lit 834::nat_lit 835::nat_lit 836::nat_lit 842::nat_lit 843::nat_lit 849::nat_lit 850::nat_lit 856::nat_lit 857::nat_lit 863::nat_lit 864::nat_lit 870::nat_lit 871::nat_lit 877::nat_lit 878::nat_lit 884::nat_lit 885::nat_lit 891::nat_lit 892::nat_lit 898::nat_lit 899::nat_lit 903::nat_lit 904::[]
theorem Bb:∀P,Cf=(K P).map (·.1):=fun zw=>by kernel_rfl
noncomputable abbrev rD:=PySem.W.Fast.tw10156331382660048174
noncomputable abbrev Az:=PySem.W.Fast.tw11892475500146522536
noncomputable abbrev BY:=PySem.W.Fast.tw14364793385576792824
noncomputable abbrev GA:=PySem.W.Fast.tw6613529449190102663
noncomputable abbrev zq:=@PySem.W.Fast.tw4187177175401517315
noncomputable def kU (p:Program) (w:World) (n₀:Nat) (ann:Option Value):Nat->SharedT->Thread->Option SharedT
 | 0,_,_=>none
 | n + 1,s,t=>match through t with
  | true=>some s
  | false=>match GA n₀ ann t with
   | false=>none
   | true=>match rD (Az BY) p w s t with
    | some (s',t')=>kU p w n₀ ann n s' t'
    | none=>none
theorem pB {p:Program} {w:World} {n₀:Nat} {ann:Option Value}:∀(n:Nat) (s:SharedT) (t:Thread) (r:SharedT),kU p w n₀ ann n s t=some r->topRun treeTable p w n₀ ann n s.abs t=some r.abs
 | 0,_,_,_,h=>by simp [kU] at h
 | n + 1,s,t,r,h=>by
  unfold kU at h
  unfold topRun
  cases ht:through t with
  | true=>rw [ht] at h; cases h; rfl
  | false =>
   rw [ht] at h
   dsimp only at h ⊢
   have e1:stepOk n₀ ann t=GA n₀ ann t:=by rw [show @stepOk = @GA from PySem.W.Fast.te6613529449190102663]
   rw [e1]
   cases hk:GA n₀ ann t with
   | false=>rw [hk] at h; cases h
   | true =>
    rw [hk] at h
    dsimp only at h ⊢
    have e2:rD (Az BY) p w s t=stepT (denote treeTable) p w s t:=by
     rw [show @stepT = @rD from PySem.W.Fast.te10156331382660048174,show @denote = @Az from PySem.W.Fast.te11892475500146522536,show @treeTable = @BY from PySem.W.Fast.te14364793385576792824]
    rw [e2] at h
    cases hs:stepT (denote treeTable) p w s t with
    | none=>rw [hs] at h; cases h
    | some x =>
     obtain ⟨s',t'⟩:=x
     rw [hs] at h
     rw [stepT_spec hs]
     exact pB n s' t' r h
noncomputable def T0 (P:Params):BT:=.node (boot_o_0 P) (.node (boot_o_1 P) (.node (boot_o_3 P) (.node (boot_o_7 P) .nil .nil) .nil) (.node (boot_o_5 P) (.node (boot_o_9 P) .nil .nil) .nil)) (.node (boot_o_2 P) (.node (boot_o_4 P) (.node (boot_o_8 P) .nil .nil) .nil) (.node (boot_o_6 P) (.node (boot_o_10 P) .nil .nil) .nil))
theorem Ch (P:Params):absHeap (T0 P) 11 {}=boot_heap P:=by kernel_rfl
noncomputable def S0 (w:World) (os:OsState):SharedT:=⟨T0 w.params,11,{},#[],boot_drawn,boot_toks,os⟩
noncomputable def qv:Program:={ pr with main:={ pr.main with body:=pr.main.body.drop 102 } }
noncomputable def looseN:List Str:=(pr.main.scope.names.map (·.1)).filter fun n=>!(n == Str.ofString "law") && !(n == Str.ofString "__name__")
noncomputable abbrev XtO:Shared->Bool:=fun s=>xlAt qv [] s && recOk [] s
noncomputable abbrev Nj:=List (Option Obj)
noncomputable def rp (P:Params) (s:Shared):Bool:=staticsOk (importedModules pr.main.body) (boot_heap P) s.heap && namesBound pr s.heap && gensDone s && laidKept (boot_heap P) s.heap
noncomputable def yp (w:World) (s:SharedT):=(rp w.params s.abs,zq qv looseN (importedModules pr.main.body) XtO true s.abs,Nat.ble 905 s.n,Cf.map s.tree.get)
noncomputable abbrev yL (w:World):=(true,openGood qv looseN,true,(K w.params).map fun p=>some p.2)
noncomputable abbrev fU (w:World) (b:Bool):World:=w.withFollow "special-get-raises" b
theorem Np (w:World) (os:OsState):(kU pr (fU w false) 11 (some (.ref 6)) 8000 (S0 (fU w false) os) (topStub pr)).map (yp (fU w false))=some (yL (fU w false)):=by kernel_rfl
theorem Nq (w:World) (os:OsState):(kU pr (fU w true) 11 (some (.ref 6)) 8000 (S0 (fU w true) os) (topStub pr)).map (yp (fU w true))=some (yL (fU w true)):=by kernel_rfl
theorem rv {T:BT} {n:Nat} {life:Life}:∀{l:List (Addr×Obj)},(l.map (·.1)).map T.get=l.map (fun p=>some p.2)->(∀p∈l,p.1 < n)->(∀p∈l,alive p.2=some p.2)->
  (l.map (·.1)).map (absHeap T n life).get? = l.map fun p=>some p.2
 | [],_,_,_=>rfl
 | p::l,h,hn,ha=>by
  simp only [List.map_cons,List.cons.injEq] at h ⊢
  exact ⟨(abs_get (hn p (.head _)) h.1).trans (ha p (.head _)),rv h.2 (fun q hq=>hn q (.tail _ hq)) fun q hq=>ha q (.tail _ hq)⟩
theorem Bj (P:Params):(K P).all (fun p=>(match p.2.data with | .freed=>false | _=>true))=true:=by kernel_rfl
theorem JB:Cf.all (fun a=>Nat.blt a 905)=true:=by kernel_rfl
theorem uL {o:Obj} (h:(match o.data with | .freed=>false | _=>true)=true):alive o=some o:=by
 obtain ⟨c,d,dt,sl⟩:=o
 cases dt <;> first | rfl | cases h
theorem EO (P:Params):∀p∈K P,p.1 < 905/\alive p.2=some p.2:=fun p hp=>by
 refine ⟨?_,uL (List.all_eq_true.mp (Bj P) p hp)⟩
 have h:=List.all_eq_true.mp JB p.1 (by rw [Bb P]; exact List.mem_map_of_mem hp)
 exact Nat.le_of_ble_eq_true h
theorem pM {w:World} {os:OsState} (h:(kU pr w 11 (some (.ref 6)) 8000 (S0 w os) (topStub pr)).map (yp w)=some (yL w)) :
  ∃s:Shared,topRun treeTable pr w 11 (some (.ref 6)) 8000 ⟨boot_heap w.params,#[],boot_drawn,boot_toks,os⟩ (topStub pr)=some s/\rp w.params s=true/\
   openSeen qv looseN (importedModules pr.main.body) XtO true s=openGood qv looseN/\Cf.map s.heap.get? = (K w.params).map fun p=>some p.2:=by
 apply bc;intro ng
 obtain ⟨s,e,e'⟩:=Option.map_eq_some_iff.mp h
 apply ng;clear ng
 have e1:rp w.params s.abs=true:=congrArg Prod.fst e'
 have e2:zq qv looseN (importedModules pr.main.body) XtO true s.abs=openGood qv looseN:=congrArg (fun x=>x.2.1) e'
 have e3:Nat.ble 905 s.n=true:=congrArg (fun x=>x.2.2.1) e'
 have e4:Cf.map s.tree.get=(K w.params).map fun p=>some p.2:=congrArg (fun x=>x.2.2.2) e'
 have r:=pB _ _ _ _ e
 have z:(S0 w os).abs=⟨boot_heap w.params,#[],boot_drawn,boot_toks,os⟩:=by
  unfold S0 SharedT.abs
  rw [Ch]
 rw [z] at r
 have hn:905<=s.n:=Nat.le_of_ble_eq_true e3
 have e5:Cf.map s.abs.heap.get? = (K w.params).map fun p=>some p.2:=by
  rw [Bb w.params] at e4 ⊢
  exact rv e4 (fun p hp=>Nat.lt_of_lt_of_le (EO _ p hp).1 hn) fun p hp=>(EO _ p hp).2
 have e6:openSeen qv looseN (importedModules pr.main.body) XtO true s.abs=openGood qv looseN :=
  (congrFun (congrFun (congrFun (congrFun (congrFun (congrFun PySem.W.Fast.te4187177175401517315 qv) looseN) (importedModules pr.main.body)) XtO) true) s.abs).trans e2
 exact ⟨s.abs,r,e1,e6,e5⟩
theorem uI:opening pr=plainProg pr.main.scope.names:=by kernel_rfl
theorem qp (s:Shared):fenceModules? pr s=some s:=by kernel_rfl
theorem sq (w:World):((boot_heap w.params).isNs mainGlobals && (#[]:Array GenState).size == 0,(boot_heap w.params).objs.size,(boot_heap w.params).nsMap mainGlobals "__annotations__")=(true,11,some (.ref 6)):=by kernel_rfl
noncomputable abbrev HK:Hook:=kHook K Cf Bb
theorem m0 {w:World} {os:OsState} {s:Shared} (r:topRun treeTable pr w 11 (some (.ref 6)) 8000 ⟨boot_heap w.params,#[],boot_drawn,boot_toks,os⟩ (topStub pr)=some s)
  (e1:(staticsOk (importedModules pr.main.body) (boot_heap w.params) s.heap && namesBound pr s.heap && gensDone s && laidKept (boot_heap w.params) s.heap)=true) :
  topFrom treeTable pr w 8000 ⟨boot_heap w.params,#[],boot_drawn,boot_toks,os⟩=some s:=by
 have sz:=sq w
 have z1:=congrArg Prod.fst sz
 have z2:=congrArg (fun x=>x.2.1) sz
 have z3:=congrArg (fun x=>x.2.2) sz
 dsimp only at z1 z2 z3
 unfold topFrom
 dsimp only
 rw [z1,z2,z3,r]
 simp only [Option.bind_some]
 rw [e1]
theorem xY {w:World} {α:Type} {f:Shared->α} {v:α} (h:∀os,∃s,topFrom treeTable pr w 8000 ⟨boot_heap w.params,#[],boot_drawn,boot_toks,os⟩=some s/\f s=v):(openEnds treeTable pr w 8000).map f=some v:=by
 apply bc;intro ng
 obtain ⟨⟨h',gs,d,k,os⟩,e,e'⟩:=Option.map_eq_some_iff.mp (boot_open (N:=8000) uI (by decide) qp w)
 simp only [Prod.mk.injEq] at e'
 obtain ⟨rfl,rfl,rfl,rfl⟩:=e'
 obtain ⟨s,h1,h2⟩:=h os
 apply ng;clear ng
 unfold openEnds
 rw [e,Option.bind_some,h1,Option.map_some,h2]
theorem o7 (w:World) (b:Bool) (ev:∀os,(kU pr (fU w b) 11 (some (.ref 6)) 8000 (S0 (fU w b) os) (topStub pr)).map (yp (fU w b))=some (yL (fU w b))) :
  (openEnds treeTable pr (fU w b) 8000).map (fun s=>(openSeen qv looseN (importedModules pr.main.body) XtO true s,HK.obs s))=some (openGood qv looseN,HK.val (fU w b)):=by
 refine xY fun os=>?_
 apply bc;intro ng
 obtain ⟨s,r,e1,e2,e3⟩:=pM (w:=fU w b) (ev os)
 apply ng;clear ng
 exact ⟨s,m0 r e1,Prod.ext e2 e3⟩
theorem left:LeftO pr qv looseN XtO HK.obs HK.val 8000 true:=by
 refine byRow2 "special-get-raises" ?_ ?_
 ·intro w; exact o7 w false (Np w)
 ·intro w; exact o7 w true (Nq w)
set_option profiler false
theorem okOpen:(chainsOk qv && opensWell PySem.Challenge.rw_sq0063_01.row.prog && (frees PySem.Challenge.rw_sq0063_01.row.toRowW && PySem.Challenge.rw_sq0063_01.row.within.isEmpty))=true:=by
 have h1:chainsOk qv=true:=by kernel_rfl
 have h2:opensWell pr=true:=by kernel_rfl
 have h3:(frees PySem.Challenge.rw_sq0063_01.row.toRowW && PySem.Challenge.rw_sq0063_01.row.within.isEmpty)=true:=by decide +kernel
 show (chainsOk qv && opensWell pr && _)=true
 rw [h1,h2,h3]; rfl
end
structure Wd (w:World) (h:Heap):Prop where
 k:(K w.params).In h
 t:∃p loose mean mg mb,Top p loose mean mg mb h
theorem Wd.keeps {w:World} {h h':Heap} (W:Wd w h) (k:h.StaysIn h'):Wd w h':=⟨W.k.keeps k,let ⟨p,l,me,mg,mb,T⟩:=W.t; ⟨p,l,me,mg,mb,T.keeps k⟩⟩
structure Room (A:Around) (n:Nat):Prop where
 hd:A.handled=none
 dp:A.depth + 3 * n + 3 < recursionLimit
 un:A.units + 20 * n + 20 < cLine
inductive Lk:List (Str×Value)->Str->Value->Prop
 | here {x v r}:Lk ((x,v)::r) x v
 | there {x v y u r}:Lk r x v->(x == y)=false->Lk ((y,u)::r) x v
inductive Un:List (Str×Value)->Str->Prop
 | nil {x}:Un [] x
 | cons {x y u r}:Un r x->(x == y)=false->Un ((y,u)::r) x
noncomputable abbrev Gr:=Addr->Option Obj
inductive Ty
 | lst (vs:List Value)
 | tup (vs:List Value)
 | ns (fs:List (Str×Value))
 | inst (C dx:Addr)
 | cell (v:Option Value)
 | pl (vs:List Value)
def jL (o:Obj) (fs:List (Str×Value)):Prop:=∃es ep,o.data = .dict es ep/\StrKeys es/\(∀name,nsFind es name=fs.lookup name)/\es.size<=fs.length
def Ty.ok (o:Obj):Ty->Prop
 | .lst vs=>o.cls = .type "list"/\∃n,o.data = .seq vs.toArray n
 | .tup vs=>o.cls = .type "tuple"/\∃n,o.data = .seq vs.toArray n
 | .ns fs=>jL o fs
 | .inst C dx=>o=instObj C dx
 | .cell v=>o.data = .cell v
 | .pl vs=>∃n,o = { cls:=.type "list",data:=.seq vs.toArray n }
def At (G:Gr) (a:Addr) (t:Ty):Prop:=∃o,G a=some o/\t.ok o
theorem At.le {G G':Gr} {a:Addr} {t:Ty} (x:At G a t) (k:∀o,G a=some o->G' a=some o):At G' a t:=let ⟨o,e,y⟩:=x; ⟨o,k o e,y⟩
theorem At.lst {h:Heap} {a:Addr} {vs:List Value} (x:At h.get? a (.lst vs)):h.IsList a vs.toArray:=x
theorem At.lt {h:Heap} {a:Addr} {t:Ty} (x:At h.get? a t):a < h.objs.size:=let ⟨_,e,_⟩:=x; Heap.lt_size e
noncomputable abbrev Cw:=List (Addr×Ty)
structure Bd (w:World) (h₀:Heap) (ds:List Addr) (G:Gr) (L:Addr) (h:Heap) (ls:List (Str×Value)) (led:Cw):Prop where
 fr:Fr (hideAll h₀ ds) L h (fun x=>ls.lookup x)
 wd:Wd w (hideAll h₀ ds)
 kp:∀a o,G a=some o->h.get? a=some o
 fL:G L=none
 nw:∀p∈led,At h.get? p.1 p.2/\p.1≠L/\G p.1=none/\(p.1∈ds\/h₀.objs.size<=p.1)
 nd:(led.map (·.1)).Nodup
section
variable {w:World} {h₀ h h':Heap} {ds:List Addr} {G:Gr} {L:Addr} {ls:List (Str×Value)} {led:Cw}
inductive Pick:Cw->Addr->Ty->Cw->Prop
 | here {d t r}:Pick ((d,t)::r) d t r
 | there {d t p r r'}:Pick r d t r'->Pick (p::r) d t (p::r')
noncomputable def Gr.add (G:Gr) (h:Heap) (l:List Addr):Gr:=fun a=>if a∈l then h.get? a else G a
end
abbrev En (env:Env) (cn:Str) (cs:Scope) (L f:Addr) (cd:Value):Prop:=env=envOf cn cs L f cd
section
variable {w:World} {A:Around} {E:Value->Shared->Prop} {h:Heap} {gs:Array GenState} {dr:Drawn} {n:Nat} {os:OsState} {g:Heap} {ds:List Addr} {G:Gr} {L f:Addr} {env:Env} {cn:Str} {cs:Scope} {cd:Value} {ls:List (Str×Value)} {led:Cw}
theorem DT {i:Int} {k:Nat} {pos:Pos} {Q:Value->Shared->Prop} (q:∀t n',Q (.int i t) ⟨h,gs,dr,n',os⟩):wpAny (model pr w) A (eval (.Constant (.int i) k pos) env) Q E ⟨h,gs,dr,n,os⟩:=wpAny_Constant_int (q _ _)
theorem Fu {x:Str} {k:Nat} {pos:Pos} {Q:Value->Shared->Prop} (q:∀t n',Q (.str x t) ⟨h,gs,dr,n',os⟩):wpAny (model pr w) A (eval (.Constant (.str x) k pos) env) Q E ⟨h,gs,dr,n,os⟩:=Calls.Constant_str (q _ _)
section
variable {a b:Int} {t u:Tok} {Q:Value->Shared->Prop}
theorem Dj (q:∀t n',Q (.int (a + b) t) ⟨h,gs,dr,n',os⟩):wpAny (model pr w) A (binaryOp .Add (.int a t) (.int b u)) Q E ⟨h,gs,dr,n,os⟩:=add_int (q _ _)
theorem Fp (q:∀t n',Q (.int (a - b) t) ⟨h,gs,dr,n',os⟩):wpAny (model pr w) A (binaryOp .Sub (.int a t) (.int b u)) Q E ⟨h,gs,dr,n,os⟩:=sub_int (q _ _)
theorem BQ (q:∀t n',Q (.int (a + b) t) ⟨h,gs,dr,n',os⟩):wpAny (model pr w) A (inplaceOp .Add (.int a t) (.int b u)) Q E ⟨h,gs,dr,n,os⟩:=iadd_int (q _ _)
theorem Da (hm:IntMulOk a b) (q:∀t n',Q (.int (a * b) t) ⟨h,gs,dr,n',os⟩):wpAny (model pr w) A (binaryOp .Mult (.int a t) (.int b u)) Q E ⟨h,gs,dr,n,os⟩:=mul_int (q _ _) hm
theorem EH (hb:0 < b) (hp:b < 2 ^ 200) (q:∀t n',Q (.int (a / b) t) ⟨h,gs,dr,n',os⟩):wpAny (model pr w) A (binaryOp .FloorDiv (.int a t) (.int b u)) Q E ⟨h,gs,dr,n,os⟩:=by
 have e:a.fdiv b=a / b:=Int.fdiv_eq_ediv_of_nonneg _ (Int.le_of_lt hb)
 exact floordiv_int (by omega) (e▸q _ _) (.inl (PyProof.noPylong_of_log2 (Nat.lt_trans ((Nat.log2_lt (by omega)).mpr (show b.natAbs < 2 ^ 200 by omega)) (by decide))))
theorem zj (hb:0 < b) (q:∀t n',Q (.int (a % b) t) ⟨h,gs,dr,n',os⟩):wpAny (model pr w) A (binaryOp .Mod (.int a t) (.int b u)) Q E ⟨h,gs,dr,n,os⟩:=by
 have e:a.fmod b=a % b:=Int.fmod_eq_emod_of_nonneg _ (Int.le_of_lt hb)
 exact mod_int (by (first | lia | omega)) (e▸q _ _)
theorem F7 (q:∀t n',Q (.int (-a) t) ⟨h,gs,dr,n',os⟩):wpAny (model pr w) A (unaryOp .USub (.int a t)) Q E ⟨h,gs,dr,n,os⟩:=neg_int (q _ _)
end
end
theorem Room.deeper {A:Around} {n:Nat} (R:Room A (n + 1)) (env:Env):Room (A.deeper env) n:=⟨R.hd,by have:=R.dp; show A.depth + 1 + 3 * n + 3 < _; (first | lia | omega),by have:=R.un; show A.units + 3 + 20 * n + 20 < _; (first | lia | omega)⟩
theorem Room.le {A:Around} {n m:Nat} (R:Room A n) (h:m<=n):Room A m:=⟨R.hd,by have:=R.dp; (first | lia | omega),by have:=R.un; (first | lia | omega)⟩
section
variable {w:World} {A:Around} {E:Value->Shared->Prop} {h:Heap} {gs:Array GenState} {dr:Drawn} {n:Nat} {os:OsState} {g:Heap} {ds:List Addr} {G:Gr} {L f:Addr} {env:Env} {cn:Str} {cs:Scope} {cd:Value} {ls:List (Str×Value)} {led:Cw}
theorem Ba {a:Int} {t:Tok} {Q:Value->Shared->Prop} {s:Shared} (q:Q (.bool true) s):wpAny (model pr w) A (call (.builtin "isinstance") [.int a t,.type "int"]) Q E s :=
 call_isinstance_yes (typeIs_int _ _ _) meta_int sub_int_int q
theorem AU {a:Int} {t:Tok} {Q:Value->Shared->Prop} (q:∀n',Q (.bool false) ⟨h,gs,dr,n',os⟩):wpAny (model pr w) A (call (.builtin "isinstance") [.int a t,.type "bool"]) Q E ⟨h,gs,dr,n,os⟩:=by
 exact call_isinstance (isinstance_false_int (by decide +kernel) F.isi_meta_bool F.sub_int_bool) (q _)
theorem Dl {a:Int} {t:Tok} {Q:Value->Shared->Prop} (q:∀t n',Q (.int (if a < 0 then -a else a) t) ⟨h,gs,dr,n',os⟩):wpAny (model pr w) A (call (.builtin "abs") [.int a t]) Q E ⟨h,gs,dr,n,os⟩ :=
 call_abs_int fun zw zw=>q _ _
end
section
set_option backward.match.sparseCases false
inductive IE
 | v (i:Nat) | c (n:Int) | add (a b:IE) | sub (a b:IE) | mul (a b:IE) | div (a b:IE) | mod (a b:IE) | neg (a:IE) | abs (a:IE) | max (a b:IE) | fn (k:Nat) (a b c:IE)
inductive CE
 | lt (a b:IE) | le (a b:IE) | eq (a b:IE) | mulok (a b:IE) | ilen (b m:Nat)
 | isl (c a:Nat) (lo hi:Option IE) | icat (c a b:Nat) | iref (c a n:Nat) | last (b:Nat) (x:IE) | ieq (a b:Nat) | emp (b:Nat) | ln (b:Nat) (e:IE)
noncomputable def IE.hd:IE->List Int
 | .v i=>[0,i] | .c n=>[1,n] | .add _ _=>[2] | .sub _ _=>[3] | .mul _ _=>[4] | .div _ _=>[5] | .mod _ _=>[6] | .neg _=>[7] | .abs _=>[8] | .max _ _=>[9] | .fn k _ _ _=>[10,k]
noncomputable def IE.args:IE->List IE
 | .v _=>[] | .c _=>[] | .add x y=>[x,y] | .sub x y=>[x,y] | .mul x y=>[x,y] | .div x y=>[x,y] | .mod x y=>[x,y] | .max x y=>[x,y] | .neg x=>[x] | .abs x=>[x] | .fn _ x y z=>[x,y,z]
noncomputable def gI (h:List Int) (i:Nat):Int:=h.getD i 0
noncomputable def gE (l:List IE) (i:Nat):IE:=l.getD i (.v 0)
noncomputable def IE.of (h:List Int) (l:List IE):IE :=
 [.v (gI h 1).toNat,.c (gI h 1),.add (gE l 0) (gE l 1),.sub (gE l 0) (gE l 1),.mul (gE l 0) (gE l 1),.div (gE l 0) (gE l 1),.mod (gE l 0) (gE l 1),.neg (gE l 0),.abs (gE l 0),.max (gE l 0) (gE l 1),.fn (gI h 1).toNat (gE l 0) (gE l 1) (gE l 2)].getD (gI h 0).toNat (.v 0)
theorem IE.of_ok (a:IE):IE.of a.hd a.args=a:=by induction a using IE.casesOn <;> rfl
noncomputable def yD (f:IE->IE->Bool) (l m:List IE):Bool:=List.rec (motive:=fun zw=>List IE->Bool) (fun m=>m.isEmpty) (fun a zw ih m=>m.head?.any (f a) && ih m.tail) l m
theorem j6 {f:IE->IE->Bool} (h:∀a b,f a b=true->a=b):∀l m,yD f l m=true->l=m:=by
 intro l
 induction l with
 | nil=>intro m e; induction m using List.casesOn with | nil=>rfl | cons a m=>exact nomatch e
 | cons a l ih=>intro m e; induction m using List.casesOn with | nil=>exact nomatch e | cons b m=>exact aa (h a b (Bool.and_eq_true_iff.mp e).1) (aa (ih m (Bool.and_eq_true_iff.mp e).2) rfl)
noncomputable def yT (n:Nat):IE->IE->Bool:=Nat.rec (fun zw zw=>false) (fun zw ih a b=>decide (a.hd=b.hd) && yD ih a.args b.args) n
theorem ru (n:Nat):∀a b,yT n a b=true->a=b:=by
 induction n with
 | zero=>intro a b e; exact nomatch e
 | succ n ih=>intro a b e; exact aa (Eq.symm a.of_ok) (aa (Eq.symm b.of_ok) (aa (of_decide_eq_true (Bool.and_eq_true_iff.mp e).1) (aa (j6 ih _ _ (Bool.and_eq_true_iff.mp e).2) rfl)))
noncomputable def IE.same (a b:IE):Bool:=yT 99 a b
theorem IE.same_ok {a b:IE} (e:a.same b=true):a=b:=ru 99 a b e
noncomputable def CE.hd:CE->List Int
 | .lt _ _=>[0] | .le _ _=>[1] | .eq _ _=>[2] | .mulok _ _=>[3] | .ilen b m=>[4,b,m] | .isl c a lo hi=>[5,c,a,lo.elim 0 fun zw=>1,hi.elim 0 fun zw=>1] | .icat c a b=>[6,c,a,b] | .iref c a n=>[7,c,a,n] | .last b _=>[8,b] | .ieq a b=>[9,a,b] | .emp b=>[10,b] | .ln b _=>[11,b]
noncomputable def CE.args:CE->List IE
 | .lt x y=>[x,y] | .le x y=>[x,y] | .eq x y=>[x,y] | .mulok x y=>[x,y] | .isl _ _ lo hi=>[lo.getD (.v 0),hi.getD (.v 0)] | .last _ x=>[x] | .ln _ e=>[e] | _=>[]
noncomputable def oE (i:Int) (e:IE):Option IE:=if i=1 then some e else none
noncomputable def CE.of (h:List Int) (l:List IE):CE :=
 [.lt (gE l 0) (gE l 1),.le (gE l 0) (gE l 1),.eq (gE l 0) (gE l 1),.mulok (gE l 0) (gE l 1),.ilen (gI h 1).toNat (gI h 2).toNat,.isl (gI h 1).toNat (gI h 2).toNat (oE (gI h 3) (gE l 0)) (oE (gI h 4) (gE l 1)),.icat (gI h 1).toNat (gI h 2).toNat (gI h 3).toNat,.iref (gI h 1).toNat (gI h 2).toNat (gI h 3).toNat,.last (gI h 1).toNat (gE l 0),.ieq (gI h 1).toNat (gI h 2).toNat,.emp (gI h 1).toNat,.ln (gI h 1).toNat (gE l 0)].getD (gI h 0).toNat (.emp 0)
theorem CE.of_ok (a:CE):CE.of a.hd a.args=a:=by
 induction a with
 | isl c a lo hi=>cases lo <;> cases hi <;> rfl
 | _=>rfl
noncomputable def CE.same (a b:CE):Bool:=decide (a.hd=b.hd) && yD IE.same a.args b.args
theorem CE.same_ok {a b:CE} (e:a.same b=true):a=b:=by
 exact aa (Eq.symm a.of_ok) (aa (Eq.symm b.of_ok) (aa (of_decide_eq_true (Bool.and_eq_true_iff.mp e).1) (aa (j6 (fun zw zw=>IE.same_ok) _ _ (Bool.and_eq_true_iff.mp e).2) rfl)))
inductive AV
 | none | bool (b:Bool) | int (e:IE) | str (s:Str) | loc (i:Nat) | glb (v:Value) | any
inductive AO
 | lst (vs:List AV) | tup (vs:List AV) | ns (fs:List (Str×AV)) | inst (C:Addr) (j:Nat) | opq (k:Nat) | lit (j i:Nat) | tit (j i:Nat) | dead
 | cell (v:Option AV) | il (b:Nat) (es:List IE) | raw (t:Ty) | fz (o:AO) | pl (vs:List AV) | rf (b:Nat) | dc (ps:List (Int×AV))
structure St where
 ls:List (Str×AV)
 cl:List (Str×Nat)
 ob:List AO
 pc:List (CE×Bool)
set_option genCtorIdx true in
inductive Fl | nx | rt (v:AV) | bk | ct
theorem AO.ns.inj {a b:List (Str×AV)} (e:AO.ns a=AO.ns b):a=b:=by cases e; rfl
theorem AV.bool.inj {a b:Bool} (e:AV.bool a=AV.bool b):a=b:=by cases e; rfl
theorem Fl.rt.inj {a b:AV} (e:Fl.rt a=Fl.rt b):a=b:=by cases e; rfl
inductive Tr
 | leaf (f:Fl) (s:St) | br (c:CE) (a b:Tr) | req (c:CE) (t:Tr) | fail
structure Rho where
 v:Nat->Int
 f:Nat->Int->Int->Int->Int
 l:Nat->List Int
noncomputable def IE.den (ρ:Rho):IE->Int
 | .v i=>ρ.v i | .c n=>n | .add a b=>a.den ρ + b.den ρ | .sub a b=>a.den ρ - b.den ρ | .mul a b=>a.den ρ * b.den ρ
 | .div a b=>a.den ρ / b.den ρ | .mod a b=>a.den ρ % b.den ρ | .neg a=>-(a.den ρ) | .abs a=>if a.den ρ < 0 then -(a.den ρ) else a.den ρ
 | .max a b=>Max.max (a.den ρ) (b.den ρ) | .fn k x y z=>ρ.f k (x.den ρ) (y.den ρ) (z.den ρ)
noncomputable def Dw (l:List Int) (lo hi:Option Int):List Int:=((match hi with | some y=>l.take y.toNat | none=>l)).drop ((lo.getD 0).toNat)
def GO (x:Option Int):Prop:=match x with | some y=>0<=y | none=>True
def CE.den (ρ:Rho):CE->Prop
 | .lt a b=>a.den ρ < b.den ρ | .le a b=>a.den ρ<=b.den ρ | .eq a b=>a.den ρ=b.den ρ | .mulok a b=>IntMulOk (a.den ρ) (b.den ρ) | .ilen b m=>(ρ.l b).length + m<=1000
 | .isl c a lo hi=>GO (lo.map (IE.den ρ))/\GO (hi.map (IE.den ρ))/\ρ.l c=Dw (ρ.l a) (lo.map (IE.den ρ)) (hi.map (IE.den ρ))/\(ρ.l a).length<=1000
 | .icat c a b=>ρ.l c=ρ.l a++ρ.l b/\(ρ.l a).length<=1000/\(ρ.l b).length<=1000 | .iref c a n=>ρ.l c=ρ.l a++[(n:Int)]/\(ρ.l a).length<=1000 | .last b x=>(ρ.l b).getLast? = some (x.den ρ)/\(ρ.l b).length<=1000 | .ieq a b=>ρ.l a=ρ.l b | .emp b=>ρ.l b = [] | .ln b e=>((ρ.l b).length:Int)=e.den ρ/\(ρ.l b).length<=1000
def Tr.ok (ρ:Rho) (post:Fl->St->Prop):Tr->Prop
 | .leaf f s=>post f s
 | .br c a b=>(c.den ρ->a.ok ρ post)/\(¬c.den ρ->b.ok ρ post)
 | .req c t=>c.den ρ/\t.ok ρ post
 | .fail=>False
noncomputable def aT {α:Type} (o:Option α) (k:α->Tr):Tr:=match o with | some a=>k a | none=>.fail
noncomputable def bO (c:Bool) (t:Tr):Tr:=match c with | true=>t | false=>.fail
noncomputable def cX {α:Type} (o:Option α) (k:α->Tr) (t:Tr):Tr:=match o with | some a=>k a | none=>t
noncomputable def fC (c:Bool) (t e:Tr):Tr:=match c with | true=>t | false=>e
noncomputable def AV.i? : AV->Option IE | .int e=>some e | _=>Option.none
noncomputable def IE.c? : IE->Option Int | .c n=>some n | _=>none
noncomputable def AV.c? (v:AV):Option Int:=v.i?.bind IE.c?
noncomputable def AV.l? : AV->Option Nat | .loc i=>some i | _=>Option.none
noncomputable def AV.s? : AV->Option Str | .str x=>some x | _=>Option.none
noncomputable def AV.b? : AV->Option Bool | .bool x=>some x | _=>Option.none
noncomputable def AV.n? : AV->Bool | .none=>true | _=>false
noncomputable def AV.g? : AV->Option Value | .glb x=>some x | _=>Option.none
noncomputable def eT : Value->Option Addr | .ref a=>some a | _=>none
noncomputable def AO.tup? : AO->Option (List AV) | .tup vs=>some vs | _=>none
noncomputable def AO.lst? : AO->Option (List AV) | .lst vs=>some vs | _=>none
noncomputable def AO.pl? : AO->Option (List AV) | .pl vs=>some vs | _=>none
noncomputable def AO.rf? : AO->Option Nat | .rf b=>some b | _=>none
noncomputable def AO.il? : AO->Option (Nat×List IE) | .il b es=>some (b,es) | _=>none
noncomputable def AO.dc? : AO->Option (List (Int×AV)) | .dc ps=>some ps | _=>none
noncomputable def AO.ns? : AO->Option (List (Str×AV)) | .ns ps=>some ps | _=>none
noncomputable def AO.inst? : AO->Option (Addr×Nat) | .inst C j=>some (C,j) | _=>none
noncomputable def AO.cell? : AO->Option (Option AV) | .cell v=>some v | _=>none
noncomputable def AO.opq? : AO->Option Nat | .opq v=>some v | _=>none
noncomputable def AO.raw? : AO->Option Ty | .raw t=>some t | _=>none
noncomputable def AO.fz? : AO->Option AO | .fz o=>some o | _=>none
noncomputable def AO.it? : AO->Option (Bool×Nat×Nat) | .lit j i=>some (true,j,i) | .tit j i=>some (false,j,i) | _=>none
noncomputable def be {α:Type}:List α->Option α | []=>none | a::r=>match r with | []=>some a | _::_=>none
noncomputable def d9 {α:Type}:List α->Option (α×α) | []=>none | a::r=>match r with | []=>none | b::r=>match r with | []=>some (a,b) | _::_=>none
noncomputable def aq {α β:Type} (a:Option α) (b:Option β):Option (α×β):=a.bind fun x=>b.map fun y=>(x,y)
noncomputable def IE.add' (a b:IE):IE:=match aq a.c? b.c? with | some p=>.c (p.1 + p.2) | none=>.add a b
noncomputable def IE.sub' (a b:IE):IE:=match aq a.c? b.c? with | some p=>.c (p.1 - p.2) | none=>.sub a b
noncomputable def IE.mul' (a b:IE):IE:=match aq a.c? b.c? with | some p=>.c (p.1 * p.2) | none=>.mul a b
noncomputable def IE.neg' (a:IE):IE:=match a.c? with | some a=>.c (-a) | none=>.neg a
noncomputable def IE.abs' (a:IE):IE:=match a.c? with | some a=>.c (if a < 0 then -a else a) | none=>.abs a
noncomputable def ma (a b:IE) (f:Int->Int->Bool) (t:Bool):Option Bool:=match aq a.c? b.c? with | some p=>some (f p.1 p.2) | none=>if a.same b=true then some t else none
noncomputable def CE.dec:CE->Option Bool
 | .lt a b=>ma a b (fun a b=>decide (a < b)) false
 | .le a b=>ma a b (fun a b=>decide (a<=b)) true
 | .eq a b=>ma a b (fun a b=>decide (a=b)) true
 | _=>none
noncomputable def AO.vw:AO->AO | .pl vs=>.lst vs | o=>o
noncomputable def AO.unf:AO->AO | .fz o=>o | o=>o
noncomputable def AO.view (o:AO):AO:=o.unf.vw
noncomputable def St.at (s:St) (i:Nat):Option AO:=(s.ob[i]?).map AO.view
noncomputable def ze (l:List (CE×Bool)) (c:CE):Option Bool:=(l.find? fun p=>c.same p.1).map (·.2)
theorem oK {l:List (CE×Bool)} {c:CE} {b:Bool} (e:ze l c=some b):(c,b)∈l:=by
 unfold ze at e
 induction q:l.find? fun p=>c.same p.1 with
 | none=>rw [q] at e; exact nomatch e
 | some p =>
  rw [q] at e
  have s:c=p.1:=CE.same_ok (List.find?_some (p:=fun p:CE×Bool=>c.same p.1) q)
  have t:p.2=b:=Option.some.inj e
  refine aa s (aa (Eq.symm t) ?_); exact List.mem_of_find?_eq_some q
noncomputable def St.ask (s:St) (c:CE) (k:Bool->St->Tr):Tr:=match c.dec with
 | some b=>k b s
 | none=>match ze s.pc c with
  | some b=>k b s
  | none=>.br c (k true { s with pc:=(c,true)::s.pc }) (k false { s with pc:=(c,false)::s.pc })
noncomputable def qi (c:CE) (t:Tr):Tr:=match c.dec with
 | some true=>t
 | _=>.req c t
noncomputable def small (e:IE):Bool:=match e.c? with | some n=>decide (n.natAbs < 2 ^ 60) | none=>false
noncomputable def t9 (a b:IE) (t:Tr):Tr:=if small a || small b then t else .req (.mulok a b) t
structure Rc where
 E:Scope->Expr->St->(AV->St->Tr)->Tr
 T:Scope->Expr->St->(Bool->St->Tr)->Tr
 S:Scope->Stmt->St->(Fl->St->Tr)->Tr
 C:AV->List AV->St->(AV->St->Tr)->Tr
noncomputable def fV (v:AV) (k:AV->Tr):Tr:=match v with
 | .none=>k .none | .bool b=>k (.bool b) | .int e=>k (.int e) | .str s=>k (.str s) | .loc i=>k (.loc i) | .glb v=>k (.glb v) | .any=>k .any
noncomputable def Dq:List AV->(List AV->Tr)->Tr
 | [],k=>k []
 | v::r,k=>fV v fun v=>Dq r fun r=>k (v::r)
noncomputable def GI:List (Str×AV)->(List (Str×AV)->Tr)->Tr
 | [],k=>k []
 | (x,v)::r,k=>fV v fun v=>GI r fun r=>k ((x,v)::r)
noncomputable def fO (o:AO) (k:AO->Tr):Tr:=match o with
 | .lst vs=>Dq vs fun vs=>k (.lst vs)
 | .pl vs=>Dq vs fun vs=>k (.pl vs)
 | .tup vs=>Dq vs fun vs=>k (.tup vs)
 | .ns fs=>GI fs fun fs=>k (.ns fs)
 | o=>k o
noncomputable def Id:List AO->(List AO->Tr)->Tr
 | [],k=>k []
 | o::r,k=>fO o fun o=>Id r fun r=>k (o::r)
noncomputable def MM (s:St) (k:St->Tr):Tr:=match s with
 | ⟨ls,cl,ob,pc⟩=>GI ls fun ls=>Id ob fun ob=>k ⟨ls,cl,ob,pc⟩
set_option backward.match.sparseCases true in
noncomputable def aK:Expr->Bool | .Starred _ _=>true | _=>false
noncomputable def cv (e:Expr):Bool:=Nat.beq e.ctorIdx 26
noncomputable def HQ (e:Expr):Bool:=Nat.beq e.ctorIdx 23
noncomputable def cu:Expr->Bool | .Call f args kw _=>HQ f && args.isEmpty && kw.isEmpty | _=>false
noncomputable def cp (e:Expr):Bool:=Nat.beq e.ctorIdx 7
noncomputable def dO (e:Expr):Bool:=Nat.ble 8 e.ctorIdx && Nat.ble e.ctorIdx 10
noncomputable def m7 (r:Rc) (sc:Scope):List Expr->St->(List AV->St->Tr)->Tr
 | [],s,k=>k [] s
 | e::es,s,k=>if aK e then .fail else r.E sc e s fun v s=>m7 r sc es s fun vs s=>k (v::vs) s
noncomputable def qm (r:Rc) (sc:Scope):List Stmt->St->(Fl->St->Tr)->Tr
 | [],s,k=>k .nx s
 | b::bs,s,k=>r.S sc b s fun f s=>MM s fun s=>match f with | .nx=>qm r sc bs s k | _=>k f s
noncomputable def mk (o:AO) (s:St) (k:AV->St->Tr):Tr:=k (.loc s.ob.length) { s with ob:=s.ob++[o] }
noncomputable def ER (i j:Nat) (s:St) (k:AV->St->Tr):Tr :=
 cX (aq ((s.at i).bind AO.tup?) ((s.at j).bind AO.tup?)) (fun p=>bO (decide (p.1.length + p.2.length < 100)) (fC p.1.isEmpty (k (.loc j) s) (fC p.2.isEmpty (k (.loc i) s) (mk (.tup (p.1++p.2)) s k)))) <|
 aT (aq ((s.at i).bind AO.lst?) ((s.at j).bind AO.lst?)) fun p=>bO (decide (p.1.length + p.2.length < 100)) (mk (.pl (p.1++p.2)) s k)
noncomputable def r5 (op:Operator) (a b:AV) (s:St) (k:AV->St->Tr):Tr:=match op with
 | .Add=>cX (aq a.i? b.i?) (fun p=>k (.int (p.1.add' p.2)) s) <| aT (aq a.l? b.l?) fun p=>ER p.1 p.2 s k
 | .Sub=>aT (aq a.i? b.i?) fun p=>k (.int (p.1.sub' p.2)) s
 | .Mult=>aT (aq a.i? b.i?) fun p=>t9 p.1 p.2 (k (.int (p.1.mul' p.2)) s)
 | .FloorDiv=>aT (aq a.i? b.i?) fun p=>qi (.lt (.c 0) p.2) (qi (.lt p.2 (.c (2 ^ 200))) (k (.int (.div p.1 p.2)) s))
 | .Mod=>aT (aq a.i? b.i?) fun p=>qi (.lt (.c 0) p.2) (k (.int (.mod p.1 p.2)) s)
 | _=>.fail
noncomputable def Nh (a b:AV) (s:St) (k:Bool->St->Tr):Tr :=
 cX (aq a.i? b.i?) (fun p=>s.ask (.eq p.1 p.2) k) <| cX (aq a.s? b.s?) (fun p=>k (p.1 == p.2) s) <| aT (aq a.b? b.b?) fun p=>k (p.1 == p.2) s
noncomputable def Nl (a b:AV) (s:St) (k:Bool->St->Tr):Tr :=
 cX (aq a.i? b.i?) (fun p=>s.ask (.eq p.1 p.2) fun c=>k (!c)) <| aT (aq a.l? b.l?) fun p =>
  aT (aq ((s.at p.1).bind AO.opq?) ((s.at p.2).bind AO.lst?)) fun q=>bO q.2.isEmpty <| fC (q.1 == 1) (k true s) (bO (q.1 == 2) (fC (p.1 == p.2) .fail (k false s)))
noncomputable def IQ (a b:AV):Option Bool:=match b with
 | .none=>(match a with | .none=>some true | .int _=>some false | .loc _=>some false | _=>Option.none)
 | _=>Option.none
noncomputable def gG (op:CmpOp) (a b:AV) (s:St) (k:Bool->St->Tr):Tr:=match op with
 | .Eq=>Nh a b s k
 | .NotEq=>Nl a b s k
 | .Lt=>aT (aq a.i? b.i?) fun p=>s.ask (.lt p.1 p.2) k
 | .LtE=>aT (aq a.i? b.i?) fun p=>s.ask (.le p.1 p.2) k
 | .Gt=>aT (aq a.i? b.i?) fun p=>s.ask (.lt p.2 p.1) k
 | .GtE=>aT (aq a.i? b.i?) fun p=>s.ask (.le p.2 p.1) k
 | .Is=>aT (IQ a b) fun c=>k c s
 | .IsNot=>aT (IQ a b) fun c=>k (!c) s
 | _=>.fail
noncomputable def qD (a:AV) (s:St) (k:Bool->St->Tr):Tr:=match a with
 | .none=>k false s
 | .bool b=>k b s
 | .int e=>s.ask (.eq e (.c 0)) fun c=>k (!c)
 | _=>.fail
noncomputable def jq:Value->AV
 | .none=>.none
 | .bool b=>.bool b
 | .int i _=>.int (.c i)
 | .str x _=>.str x
 | v=>.glb v
noncomputable def EM:List (Str×Value) :=
 [(Str.ofString "isinstance",Value.builtin "isinstance"),(Str.ofString "abs",.builtin "abs"),(Str.ofString "max",.builtin "max"),(Str.ofString "sum",.builtin "sum"),(Str.ofString "len",.builtin "len"),
  (Str.ofString "int",.type "int"),(Str.ofString "bool",.type "bool"),(Str.ofString "tuple",.type "tuple"),(Str.ofString "list",.type "list"),(Str.ofString "str",.type "str"),(Str.ofString "dict",.type "dict"),(Str.ofString "enumerate",.type "enumerate")]
noncomputable def blt (x:Str):Option Value:=EM.lookup x
noncomputable def sO (s:St) (x:Str):Option AV:=(((s.cl.lookup x).bind s.at).bind AO.cell?).bind id
noncomputable def zh (P:Params) (sc:Scope) (x:Str) (s:St) (k:AV->St->Tr):Tr :=
 fC (x == Str.ofString "__debug__" || x == Str.ofString "__name__") .fail <| aT (sc.names.lookup x) fun kd=>match kd with
 | .local=>aT (s.ls.lookup x) fun v=>k v s
 | .cell=>aT (sO s x) fun v=>k v s
 | .globalImplicit=>aT (nsIn (K P) mainGlobals x) fun g=>match g with
  | some v=>k (jq v) s
  | none=>aT (blt x) fun v=>k (.glb v) s
 | _=>.fail
noncomputable def St.put (s:St) (x:Str) (v:AV):St:={ s with ls:=(x,v)::s.ls }
noncomputable def bZ (sc:Scope) (x:Str) (v:AV) (s:St) (k:St->Tr):Tr:=aT (sc.names.lookup x) fun kd=>match kd with
 | .local=>k (s.put x v)
 | .cell=>aT (s.cl.lookup x) fun i=>aT ((s.ob[i]?).bind AO.cell?) fun zw=>k { s with ob:=s.ob.set i (.cell (some v)) }
 | _=>.fail
noncomputable def eE (P:Params) (C:Addr):Bool :=
 (findIn (K P) (.ref C) (Str.ofString "__getattribute__") == some (some (.builtin "object.__getattribute__"))) && (findIn (K P) (.ref C) (Str.ofString "__getattr__") == some none) &&
 (findIn (K P) (.ref C) (Str.ofString "__setattr__") == some (some (.builtin "object.__setattr__"))) && plainOver (K P) C && (clsIn (K P) C).any (·.hasDict)
noncomputable def v9 (s:St) (i:Nat):Option (Addr×Nat×List (Str×AV)):=((s.at i).bind AO.inst?).bind fun q=>((s.at q.2).bind AO.ns?).map fun fs=>(q.1,q.2,fs)
noncomputable def AV.told:AV->Bool | .glb _=>false | .any=>false | _=>true
noncomputable def yO : Value->Option (Int×Tok) | .int n t=>some (n,t) | _=>none
noncomputable def pd (P:Params) (a:AV) (name:Str) (s:St) (k:AV->St->Tr):Tr :=
 aT a.l? fun i=>aT (v9 s i) fun q=>bO (eE P q.1) <| aT (findIn (K P) (.ref q.1) name) fun f=>match f with
 | none=>aT (q.2.2.lookup name) fun v=>bO v.told (k v s)
 | some u=>aT (yO u) fun z=>bO ((q.2.2.lookup name).isNone && (specialIn (K P) (.int z.1 z.2) (Str.ofString "__get__") == some none) && !copiedNames.contains name) (k (.int (.c z.1)) s)
noncomputable def rj {β:Type} (fs:List (Str×β)) (name:Str) (v:β):List (Str×β):=if (fs.lookup name).isSome=true then fs.map (fun p=>if p.1 == name then (p.1,v) else p) else (name,v)::fs
noncomputable def f7 (P:Params) (a:AV) (name:Str) (v:AV) (s:St) (k:St->Tr):Tr :=
 aT a.l? fun i=>aT (v9 s i) fun q=>aT ((s.ob[q.2.1]?).bind AO.ns?) fun fs =>
  bO (eE P q.1 && (takerIn (K P) q.1 name == some none) && decide (fs.length < 500)) (k { s with ob:=s.ob.set q.2.1 (.ns (rj fs name v)) })
noncomputable def qS (e:IE) (k:Nat->St->Tr):Nat->St->Tr
 | 0,_=>.fail
 | m + 1,s=>s.ask (.eq e (.c m)) fun b s=>if b then k m s else qS e k m s
noncomputable def kS (a i:AV) (s:St) (k:AV->St->Tr):Tr:=aT a.l? fun j=>aT i.i? fun e =>
 cX e.c? (fun n=>bO (decide (n.natAbs < 2 ^ 60)) <|
  cX ((s.at j).bind AO.lst?) (fun vs=>aT (seqIndex? n vs.length) fun m=>aT vs[m]? fun v=>k v s) <|
  aT ((s.at j).bind AO.tup?) fun vs=>aT (seqIndex? n vs.length) fun m=>aT vs[m]? fun v=>k v s) <|
 aT ((s.at j).bind AO.lst?) fun vs=>bO (decide (vs.length < 100)) (qS e (fun m s=>aT vs[m]? fun v=>k v s) vs.length s)
noncomputable def AO.mut? : AO->Option (List AV) | .lst vs=>some vs | .pl vs=>some vs | _=>none
noncomputable def gB (a i v:AV) (s:St) (k:St->Tr):Tr:=aT a.l? fun j=>aT i.i? fun e=>aT ((s.ob[j]?).bind AO.mut?) fun vs =>
 bO (decide (vs.length < 100)) (qS e (fun m s=>k { s with ob:=s.ob.set j (.lst (vs.set m v)) }) vs.length s)
noncomputable def tB (op:Operator) (a b:AV) (s:St) (k:AV->St->Tr):Tr:=match op with
 | .Add=>aT (aq a.i? b.i?) fun p=>k (.int (p.1.add' p.2)) s
 | _=>.fail
noncomputable def ae (l:List (Str×NameKind)):List Str:=l.filterMap fun x=>if x.2 = .cell then some x.1 else none
structure FnI where
 params:Arguments
 body:List Stmt
 scope:Scope
 dfl:List AV
noncomputable def nC (o:Obj):Option FuncData:=match o.data with | .func fd=>some fd | _=>none
noncomputable def jP (o:Obj):Option (List Value):=match o.data with | .seq vs _=>some vs.toList | _=>none
noncomputable def o9 : FuncBody->Option (List Stmt) | .stmts b=>some b | _=>none
noncomputable def sU (P:Params):Value->Option (List AV)
 | .none=>some []
 | .ref d=>(((K P).lookup d).bind jP).map fun vs=>vs.map jq
 | _=>none
noncomputable def dL (P:Params) (f:Addr):Option FnI:=(((K P).lookup f).bind nC).bind fun fd=>(o9 fd.body).bind fun body =>
 if fd.globals == mainGlobals && fd.closure.isEmpty && fd.builtins == builtinsNs && codeIn (K P) fd.code fd.qualname && !fd.scope.isCoroutine && !fd.scope.isGenerator && fd.scope.kind == .function &&
   decide ((ae fd.scope.names).Nodup) && fd.params.posonlyargs.isEmpty && fd.params.vararg.isNone && fd.params.kwonlyargs.isEmpty && fd.params.kwarg.isNone then
  (sU P fd.defaults).map fun ds=>⟨fd.params,body,fd.scope,ds⟩
 else none
noncomputable def iR {β:Type} (sl:List (Str×β)) (x:Str×β):List (Str×β):=if (sl.lookup x.1).isNone=true then sl++[(x.1,x.2)] else sl
noncomputable def oV {β:Type} (names:List Str) (vs dfl:List β):Option (List (Str×β)) :=
 if decide (vs.length<=names.length) && decide (dfl.length<=names.length) && ((names.take (names.length - dfl.length)).filter fun n=>((names.zip vs).lookup n).isNone).isEmpty then
  some (names.filterMap fun n=>((((names.drop (names.length - dfl.length)).zip dfl).foldl iR (names.zip vs)).lookup n).map (n,·))
 else none
noncomputable def aQ (fi:FnI) (vs:List AV):Option (List (Str×AV)):=match oV (fi.params.args.map (·.arg)) vs fi.dfl with
 | some ls=>if ls.all (fun x=>decide (fi.scope.names.lookup x.1=some .local) || (decide (fi.scope.names.lookup x.1=some .cell) && ((cellsFrom 0 fi.scope.names []).lookup x.1).isSome)) && (ae fi.scope.names).all (fun n=>decide (fi.scope.names.lookup n=some .cell) && ((cellsFrom 0 fi.scope.names []).lookup n).isSome) then some ls else none
 | none=>none
noncomputable def EL (P:Params) (n:Nat):Value->Bool
 | .ref a=>keepIn (K P) (.ref a)
 | .builtin _=>decide (n≠0)
 | .type _=>decide (n≠0)
 | _=>false
noncomputable def m3 (P:Params) (n:Nat) (f:AV):Bool:=match f.g? with | some v=>EL P n v | none=>false
noncomputable abbrev Hk:=Addr->List AV->List AO->Option (List CE×AV×List AO)
noncomputable def rV:List CE->Tr->Tr
 | [],t=>t
 | c::cs,t=>qi c (rV cs t)
noncomputable def vB (P:Params) (r:Rc) (a:Addr) (args:List AV) (s:St) (k:AV->St->Tr):Tr:=match dL P a with
 | some fi=>(match aQ fi args with
  | some ls=>qm r fi.scope fi.body { s with ls:=ls.reverse.filter (fun x=>decide (fi.scope.names.lookup x.1=some .local)),cl:=(ae fi.scope.names).zip ((List.range (ae fi.scope.names).length).map (s.ob.length + ·)),ob:=s.ob++(ae fi.scope.names).map (fun n=>.cell (ls.reverse.lookup n)) } fun f s'=>(match f with | .rt v=>k v { s' with ls:=s.ls,cl:=s.cl } | .nx=>k .none { s' with ls:=s.ls,cl:=s.cl } | _=>.fail)
  | none=>.fail)
 | none=>.fail
noncomputable def u7 (o:Obj):Bool:=match o.data with | .cls _=>true | _=>false
noncomputable def Dg (P:Params) (a:Addr):Bool:=((K P).lookup a).any u7
noncomputable def zB (P:Params) (r:Rc) (a:Addr) (args:List AV) (s:St) (k:AV->St->Tr):Tr :=
 bO (makesIn (K P) a) <| aT (((findIn (K P) (.ref a) (Str.ofString "__init__")).bind id).bind eT) fun fI=>bO (typeIn (K P) (.ref fI) == some (.type "function")) <|
  vB P r fI (.loc (s.ob.length + 1)::args) { s with ob:=s.ob++[.ns [],.inst a s.ob.length] } fun v s'=>(match v with | .none=>k (.loc (s.ob.length + 1)) s' | _=>.fail)
noncomputable def gQ:List AV->Option (List IE)
 | []=>some []
 | v::r=>v.i?.bind fun e=>(gQ r).map (e :: ·)
noncomputable def uW:List IE->IE
 | []=>.c 0
 | [e]=>e
 | e::r=>.add e (uW r)
noncomputable def lQ (e:IE):List IE->IE
 | []=>e
 | e'::r=>.max e (lQ e' r)
noncomputable def lstAt (s:St) (v:AV):Option (List AV):=(v.l?.bind s.at).bind AO.lst?
noncomputable def tupAt (s:St) (v:AV):Option (List AV):=(v.l?.bind s.at).bind AO.tup?
noncomputable def CY (nm:String) (args:List AV) (s:St) (k:AV->St->Tr):Tr :=
 fC (nm == "isinstance") (aT (d9 args) fun p=>aT (aq p.1.i? p.2.g?) fun q=>fC (q.2 == .type "int") (k (.bool true) s) (bO (q.2 == .type "bool") (k (.bool false) s))) <|
 fC (nm == "abs") (aT ((be args).bind AV.i?) fun e=>k (.int e.abs') s) <|
 fC (nm == "max") (cX (d9 args) (fun p=>aT (aq p.1.i? p.2.i?) fun q=>k (.int (.max q.1 q.2)) s) <| aT (((be args).bind (lstAt s)).bind gQ) fun es=>match es with | e::es=>k (.int (lQ e es)) s | []=>.fail) <|
 fC (nm == "sum") (aT (((be args).bind (lstAt s)).bind gQ) fun es=>k (.int (uW es)) s) <|
 bO (nm == "len") (aT (be args) fun a=>cX (lstAt s a) (fun vs=>bO (decide (vs.length < 100)) (k (.int (.c vs.length)) s)) <| aT (tupAt s a) fun vs=>bO (decide (vs.length < 100)) (k (.int (.c vs.length)) s))
noncomputable def jG (P:Params) (hk:Hk) (r:Rc) (f:AV) (args:List AV) (s:St) (k:AV->St->Tr):Tr:=aT f.g? fun v=>match v with
 | .ref a=>cX (hk a args s.ob) (fun q=>rV q.1 (k q.2.1 { s with ob:=q.2.2 })) (fC (Dg P a) (zB P r a args s k) (vB P r a args s k))
 | .builtin nm=>CY nm args s k
 | .type nm=>bO (nm == "tuple") (aT ((be args).bind (lstAt s)) fun vs=>bO (decide (vs.length < 100)) (mk (.tup vs) s k))
 | _=>.fail
noncomputable def pC (i:Nat) (vs:List AV) (s:St) (k:AV->St->Tr):Tr:=aT (aq (s.ob[i]?) (be vs)) fun q =>
 cX q.1.pl? (fun us=>bO (decide (us.length < 100)) (k .none { s with ob:=s.ob.set i (.pl (us++[q.2])) })) <|
 aT (aq q.1.il? q.2.i?) fun z=>.req (.ilen z.1.1 z.1.2.length) (k .none { s with ob:=s.ob.set i (.il z.1.1 (z.1.2++[z.2])) })
noncomputable def eK (cl:List (Str×Nat)):List (Str×NameKind)->List (Str×Nat)->Option (List (Str×Nat))
 | [],acc=>some acc
 | (n,k)::r,acc=>if k == .free then (match cl.lookup n with | some i=>eK cl r ((n,i)::acc) | none=>none) else eK cl r acc
noncomputable def bM (csc sc:Scope):Scope:={ csc with names:=csc.names.map fun (n,k)=>if (k == .free && sc.kind == .function && sc.names.lookup n == some .cell) then (n,.cell) else (n,k) }
noncomputable def cW (csc:Scope) (x:Str):Bool :=
 csc.names.all (fun y=>decide (y.2≠.cell)) && csc.kind == .function && csc.names.all (fun y=>!(y.2 == .local) || decide (csc.names.lookup y.1=some .local)) && decide (csc.names.lookup x=some .local)
noncomputable def Dt (r:Rc) (sc:Scope) (x:Str) (elt:Expr) (acc:Nat) (v:AV) (s:St) (k:St->Tr):Tr :=
 bZ sc x v s fun s=>r.E sc elt s fun y s=>aT ((s.ob[acc]?).bind AO.lst?) fun ys=>bO (decide (ys.length < 100)) (k { s with ob:=s.ob.set acc (.lst (ys++[y])) })
noncomputable def Ah (l:Bool) (j i:Nat):AO:=match l with | true=>.lit j i | false=>.tit j i
noncomputable def MW (l:Bool) (o:AO):Option (List AV):=match l with | true=>o.lst? | false=>o.tup?
noncomputable def nH (s:St) (m:Nat):Option (Option AV×AO):=((s.ob[m]?).bind AO.it?).bind fun q=>((s.at q.2.1).bind (MW q.1)).map fun vs=>(vs[q.2.2]?,Ah q.1 q.2.1 (q.2.2 + 1))
noncomputable def l7 (r:Rc) (sc:Scope) (x:Str) (elt:Expr) (m acc:Nat) (k:St->Tr):Nat->St->Tr
 | 0,_=>.fail
 | n + 1,s=>aT (nH s m) fun q=>match q.1 with
  | some v=>Dt r sc x elt acc v { s with ob:=s.ob.set m q.2 } (l7 r sc x elt m acc k n)
  | none=>k { s with ob:=s.ob.set m .dead }
noncomputable def AM (v:AV) (s:St):Option AO:=orO (lstAt s v) (tupAt s v) v.l?
where orO (a b:Option (List AV)) (l:Option Nat):Option AO:=l.bind fun j=>match a with | some _=>some (Ah true j 0) | none=>b.map fun zw=>Ah false j 0
noncomputable def oi : Expr->Option (Expr×Str×Pos) | .Attribute o n p=>some (o,n,p) | _=>none
noncomputable def iX : Expr->Option Str | .Name x _=>some x | _=>none
noncomputable def zx : Expr->Option Expr | .Slice a b c _=>(match a with | none=>(match c with | none=>b | some _=>none) | some _=>none) | _=>none
noncomputable def za (gs:List Comprehension):Option (Str×Expr):=match gs with
 | []=>none
 | g::r=>(match r with | []=>if g.ifs.isEmpty && g.is_async == 0 then (iX g.target).map fun x=>(x,g.iter) else none | _::_=>none)
noncomputable def Nb (op:UnaryOp) (x:AV) (s:St) (k:AV->St->Tr):Tr:=match op with
 | .USub=>aT x.i? fun e=>k (.int e.neg') s
 | .Not=>qD x s fun b s=>k (.bool (!b)) s
 | _=>.fail
noncomputable def BJ (c:Const) (s:St) (k:AV->St->Tr):Tr:=match c with
 | .none=>k .none s
 | .bool b=>k (.bool b) s
 | .int i=>k (.int (.c i)) s
 | .str x=>k (.str x) s
 | _=>.fail
noncomputable def yW (r:Rc) (sc:Scope) (op:BoolOp) (vs:List Expr) (p:Pos) (s:St) (k:AV->St->Tr):Tr:=match vs with
 | []=>.fail
 | a::rest=>(match rest with
  | []=>r.E sc a s k
  | b::rest=>r.E sc a s fun x s=>qD x s fun c s=>(match op with | .And=>fC c (r.E sc (.BoolOp .And (b::rest) p) s k) (k x s) | .Or=>fC c (k x s) (r.E sc (.BoolOp .Or (b::rest) p) s k)))
noncomputable def r7 (r:Rc) (sc:Scope) (a:Expr) (ops:List CmpOp) (cs:List Expr) (s:St) (k:AV->St->Tr):Tr :=
 cX (aq (be ops) (be cs)) (fun q=>fC (behindInMarks q.1 q.2) .fail <| r.E sc a s fun x s=>r.E sc q.2 s fun y s=>gG q.1 x y s fun c s=>k (.bool c) s) <|
 aT (aq (d9 ops) (d9 cs)) fun q=>fC (lastMarks [q.1.1,q.1.2] [q.2.1,q.2.2]) .fail <| r.E sc a s fun x s=>r.E sc q.2.1 s fun y s=>gG q.1.1 x y s fun t s =>
  fC t (r.E sc q.2.2 s fun z s=>gG q.1.2 y z s fun t s=>k (.bool t) s) (k (.bool false) s)
noncomputable def yR (P:Params) (r:Rc) (sc:Scope) (o:Expr) (name:Str) (apos:Pos) (args:List Expr) (pos:Pos) (s:St) (k:AV->St->Tr):Tr :=
 bO (apos.endLine == pos.line && decide (args.length < 20) && !cu o && args.all (fun e=>!aK e)) <| r.E sc o s fun ov s=>aT ov.l? fun i =>
  cX (v9 s i) (fun q=>bO (eE P q.1 && (q.2.2.lookup name).isNone) <| aT (((findIn (K P) (.ref q.1) name).bind id).bind eT) fun f =>
   bO (typeIn (K P) (.ref f) == some (.type "function") && keepIn (K P) (.ref f)) <| m7 r sc args s fun vs s=>r.C (.glb (.ref f)) (.loc i::vs) s k) <|
  bO (name == Str.ofString "append" && decide (args.length=1) && (s.ob[i]?).any fun o=>o.pl?.isSome || o.il?.isSome) <| m7 r sc args s fun vs s=>pC i vs s k
noncomputable def uE (P:Params) (r:Rc) (sc:Scope) (f:Expr) (args:List Expr) (s:St) (k:AV->St->Tr):Tr :=
 bO (decide (args.length < 20) && args.all (fun e=>!aK e)) <| r.E sc f s fun fv s=>bO (m3 P args.length fv) <| m7 r sc args s fun vs s=>r.C fv vs s k
noncomputable def zb (ov uv:AV) (s:St) (k:AV->St->Tr):Tr:=aT (aq (lstAt s ov) uv.i?) fun q =>
 bO (decide (q.1.length < 100)) (qS q.2 (fun m s=>mk (.lst (q.1.take m)) s k) (q.1.length + 1) s)
noncomputable def Md (r:Rc) (sc:Scope) (elt:Expr) (x:Str) (iter:Expr) (csc:Scope) (s:St) (k:AV->St->Tr):Tr :=
 bO (!cp iter && cW csc x) <| aT (eK s.cl csc.names []) fun cl=>r.E sc iter s fun v s=>aT (AM v s) fun io =>
  l7 r (bM csc sc) x elt s.ob.length (s.ob.length + 1) (fun s'=>k (.loc (s.ob.length + 1)) { s' with ls:=s.ls,cl:=s.cl }) 40 ⟨[],cl,s.ob++[io]++[.lst []],s.pc⟩
noncomputable def oF (P:Params) (r:Rc) (sc:Scope) (e:Expr) (s:St) (k:AV->St->Tr):Tr:=match e with
 | .Constant c _ _=>BJ c s k
 | .Name x _=>zh P sc x s k
 | .BinOp a op b _=>r.E sc a s fun x s=>r.E sc b s fun y s=>r5 op x y s k
 | .UnaryOp op a _=>r.E sc a s fun x s=>Nb op x s k
 | .BoolOp op vs p=>yW r sc op vs p s k
 | .Compare a ops cs _=>r7 r sc a ops cs s k
 | .IfExp t a b _=>r.T sc t s fun c s=>fC c (r.E sc a s k) (r.E sc b s k)
 | .Call f args kw pos=>bO kw.isEmpty <| cX (oi f) (fun q=>yR P r sc q.1 q.2.1 q.2.2 args pos s k) (uE P r sc f args s k)
 | .Attribute o name _=>bO (!cu o) <| r.E sc o s fun ov s=>pd P ov name s k
 | .Subscript o i _=>cX (zx i) (fun u=>r.E sc o s fun ov s=>r.E sc u s fun uv s=>zb ov uv s k) <| bO (!cv i) <| r.E sc o s fun ov s=>r.E sc i s fun iv s=>kS ov iv s k
 | .ListComp elt gs csc _=>aT (za gs) fun g=>Md r sc elt g.1 g.2 csc s k
 | .Tuple elts _ _=>bO (decide (elts.length < 100)) <| m7 r sc elts s fun vs s=>mk (.tup vs) s k
 | .List elts _=>bO (decide (elts.length < 100)) <| m7 r sc elts s fun vs s=>mk (.pl vs) s k
 | _=>.fail
noncomputable def dY (e:Expr):Bool:=Nat.beq e.ctorIdx 23 || Nat.beq e.ctorIdx 16 || Nat.beq e.ctorIdx 20
noncomputable def DA (r:Rc) (sc:Scope) (op:BoolOp) (vs:List Expr) (p:Pos) (s:St) (k:Bool->St->Tr):Tr:=match op with
 | .And=>(match vs with | []=>k true s | a::rest=>r.T sc a s fun c s=>fC c (r.T sc (.BoolOp .And rest p) s k) (k false s))
 | .Or=>(match vs with | []=>k false s | a::rest=>r.T sc a s fun c s=>fC c (k true s) (r.T sc (.BoolOp .Or rest p) s k))
noncomputable def Ca (r:Rc) (sc:Scope) (a:Expr) (ops:List CmpOp) (cs:List Expr) (s:St) (k:Bool->St->Tr):Tr :=
 cX (aq (be ops) (be cs)) (fun q=>fC (behindInMarks q.1 q.2) .fail <| r.E sc a s fun x s=>r.E sc q.2 s fun y s=>gG q.1 x y s k) <|
 aT (aq (d9 ops) (d9 cs)) fun q=>fC (lastMarks [q.1.1,q.1.2] [q.2.1,q.2.2]) .fail <| r.E sc a s fun x s=>r.E sc q.2.1 s fun y s=>gG q.1.1 x y s fun t s =>
  fC t (r.E sc q.2.2 s fun z s=>gG q.1.2 y z s k) (k false s)
noncomputable def stepT (r:Rc) (sc:Scope) (e:Expr) (s:St) (k:Bool->St->Tr):Tr:=match e with
 | .BoolOp op vs p=>DA r sc op vs p s k
 | .UnaryOp op a _=>(match op with | .Not=>r.T sc a s fun c s=>k (!c) s | _=>.fail)
 | .Compare a ops cs _=>Ca r sc a ops cs s k
 | e=>bO (dY e) (r.E sc e s fun v s=>qD v s k)
noncomputable def iq (e:Expr):Bool:=Nat.beq e.ctorIdx 19
noncomputable def tup? : Expr->Option (List Expr) | .Tuple es _ _=>some es | _=>none
noncomputable def iG (e:Expr):Bool:=match tup? e with | some es=>!(es.all iq) | none=>false
noncomputable def pt (e:Expr):Bool:=Nat.beq e.ctorIdx 16
noncomputable def cS (e:Expr):Bool:=Nat.beq e.ctorIdx 23 || Nat.beq e.ctorIdx 20
noncomputable def vz (P:Params) (r:Rc) (sc:Scope) (e:Expr) (v:AV) (s:St) (k:St->Tr):Tr:=match e with
 | .Name x _=>bZ sc x v s k
 | .Attribute o name _=>r.E sc o s fun ov s=>f7 P ov name v s k
 | _=>.fail
noncomputable def dB (P:Params) (r:Rc) (sc:Scope):List Expr->List AV->St->(St->Tr)->Tr
 | [],vs,s,k=>bO vs.isEmpty (k s)
 | e::es,vs,s,k=>(match vs with | []=>.fail | v::vs=>vz P r sc e v s fun s=>dB P r sc es vs s k)
noncomputable def lO (r:Rc) (sc:Scope) (x:Str) (body:List Stmt) (m:Nat) (k:Fl->St->Tr):Nat->St->Tr
 | 0,_=>.fail
 | n + 1,s=>aT (nH s m) fun q=>match q.1 with
  | some v=>bZ sc x v { s with ob:=s.ob.set m q.2 } fun s=>qm r sc body s fun f s=>(match f with | .nx | .ct=>lO r sc x body m k n s | .bk=>k .nx s | .rt v=>k (.rt v) s)
  | none=>k .nx { s with ob:=s.ob.set m .dead }
noncomputable def El (P:Params) (r:Rc) (sc:Scope) (t:Expr) (e:Expr) (s:St) (k:St->Tr):Tr:=match t with
 | .Name x _=>r.E sc e s fun v s=>bZ sc x v s k
 | .Attribute o name _=>r.E sc e s fun v s=>r.E sc o s fun ov s=>f7 P ov name v s k
 | .Tuple elts _ _=>bO (!iG e) <| r.E sc e s fun v s=>aT (tupAt s v) fun vs=>bO (decide (vs.length=elts.length) && elts.all cS) (dB P r sc elts vs s k)
 | .Subscript o i _=>r.E sc e s fun v s=>r.E sc o s fun ov s=>r.E sc i s fun iv s=>gB ov iv v s k
 | _=>.fail
noncomputable def Eh (P:Params) (r:Rc) (sc:Scope) (t:Expr) (op:Operator) (e:Expr) (s:St) (k:St->Tr):Tr:=match t with
 | .Attribute o name _=>r.E sc o s fun ov s=>pd P ov name s fun old s=>r.E sc e s fun v s=>tB op old v s fun new s=>f7 P ov name new s k
 | .Subscript o i _=>bO (!cv i) <| r.E sc o s fun ov s=>r.E sc i s fun iv s=>kS ov iv s fun old s=>r.E sc e s fun v s=>tB op old v s fun new s=>gB ov iv new s k
 | _=>.fail
noncomputable def Ez (r:Rc) (sc:Scope) (x:Str) (it:Expr) (body:List Stmt) (s:St) (k:Fl->St->Tr):Tr:=bO (!cp it) <| r.E sc it s fun v s=>aT (AM v s) fun io=>lO r sc x body s.ob.length k 40 { s with ob:=s.ob++[io] }
noncomputable def i9 (P:Params) (r:Rc) (sc:Scope) (b:Stmt) (s:St) (k:Fl->St->Tr):Tr:=match b with
 | .Return e _=>(match e with | some e=>r.E sc e s fun v s=>k (.rt v) s | none=>k (.rt .none) s)
 | .If t a b _=>r.T sc t s fun c s=>fC c (qm r sc a s k) (qm r sc b s k)
 | .Assign ts e _=>bO (!dO e) <| aT (be ts) fun t=>El P r sc t e s fun s=>k .nx s
 | .For t it body els _=>bO els.isEmpty <| aT (iX t) fun x=>Ez r sc x it body s k
 | .AugAssign t op e _=>Eh P r sc t op e s fun s=>k .nx s
 | .Expr e _=>bO (pt e) (r.E sc e s fun zw s=>k .nx s)
 | .Pass _=>k .nx s
 | .Continue _=>k .ct s
 | _=>.fail
noncomputable def nil:Rc:=⟨fun zw zw zw zw=>.fail,fun zw zw zw zw=>.fail,fun zw zw zw zw=>.fail,fun zw zw zw zw=>.fail⟩
noncomputable def LV (P:Params) (hk:Hk) (r:Rc):Rc:=⟨oF P r,stepT r,i9 P r,jG P hk r⟩
noncomputable def run (P:Params) (hk:Hk):Nat->Rc
 | 0=>nil
 | n + 1=>LV P hk (run P hk n)
noncomputable def aA:Hk:=fun zw zw zw=>none
noncomputable def sx (P:Params) (hk:Hk) (n:Nat) (f:Addr) (args:List AV) (ob:List AO):Tr:=(run P hk n).C (.glb (.ref f)) args ⟨[],[],ob,[]⟩ fun v s=>.leaf (.rt v) ⟨[],[],s.ob,[]⟩
noncomputable def A1 (P:Params) (hk:Hk) (n:Nat) (sc:Scope) (bs:List Stmt) (s:St):Tr:=qm (run P hk n) sc bs s fun f s=>.leaf f { s with pc:=[] }
end
section
variable {ρ:Rho} {post:Fl->St->Prop}
theorem af {α:Type} {o:Option α} {k:α->Tr} (y:(aT o k).ok ρ post):∃a,o=some a/\(k a).ok ρ post:=by
 induction o with | none=>exact y.elim | some a=>exact ⟨a,rfl,y⟩
theorem aj {c:Bool} {t:Tr} (y:(bO c t).ok ρ post):c=true/\t.ok ρ post:=by
 induction c with | true=>exact ⟨rfl,y⟩ | false=>exact y.elim
theorem cE {α:Type} {o:Option α} {k:α->Tr} {t:Tr} (y:(cX o k t).ok ρ post):(∃a,o=some a/\(k a).ok ρ post)\/o=none/\t.ok ρ post:=by
 induction o with | none=>exact .inr ⟨rfl,y⟩ | some a=>exact .inl ⟨a,rfl,y⟩
theorem aV {α:Type} {o:Option α} {k:α->Tr} {t:Tr} (y:(cX o k t).ok ρ post):(∃a,o=some a/\(k a).ok ρ post)\/t.ok ρ post:=by
 induction o with | none=>exact .inr y | some a=>exact .inl ⟨a,rfl,y⟩
theorem cG {c:Bool} {t e:Tr} (y:(fC c t e).ok ρ post):(c=true/\t.ok ρ post)\/(c=false/\e.ok ρ post):=by
 induction c with | true=>exact .inl ⟨rfl,y⟩ | false=>exact .inr ⟨rfl,y⟩
end
theorem ah {α β:Type} {a:Option α} {b:Option β} {p:α×β} (e:aq a b=some p):a=some p.1/\b=some p.2:=by
 induction a with
 | none=>exact ap e
 | some x=>induction b with | none=>exact ap e | some z=>exact aF e▸⟨rfl,rfl⟩
theorem cP {v:AV} {e:IE} (h:v.i? = some e):v = .int e:=by induction v using AV.casesOn <;> first | exact congrArg AV.int (aF h) | exact ap h
theorem bN {v:AV} {i:Nat} (h:v.l? = some i):v = .loc i:=by induction v using AV.casesOn <;> first | exact congrArg AV.loc (aF h) | exact ap h
theorem nu {v:AV} {x:Str} (h:v.s? = some x):v = .str x:=by induction v using AV.casesOn <;> first | exact congrArg AV.str (aF h) | exact ap h
theorem xA {v:AV} {x:Bool} (h:v.b? = some x):v = .bool x:=by induction v using AV.casesOn <;> first | exact congrArg AV.bool (aF h) | exact ap h
theorem KP {v:AV} (h:v.n? = true):v = .none:=by induction v using AV.casesOn <;> first | rfl | exact bH h
theorem nE {v:AV} {x:Value} (h:v.g? = some x):v = .glb x:=by induction v using AV.casesOn <;> first | exact congrArg AV.glb (aF h) | exact ap h
theorem bP {e:IE} {n:Int} (h:e.c? = some n):e = .c n:=by induction e using IE.casesOn <;> first | exact congrArg IE.c (aF h) | exact ap h
theorem je {v:AV} {n:Int} (h:v.c? = some n):v = .int (.c n):=let ⟨_,h1,h2⟩:=az h; (cP h1).trans (congrArg AV.int (bP h2))
theorem rK {v:Value} {a:Addr} (h:eT v=some a):v = .ref a:=by induction v using Value.casesOn <;> first | exact congrArg Value.ref (aF h) | exact ap h
theorem cY {o:AO} {vs:List AV} (h:o.tup? = some vs):o = .tup vs:=by induction o using AO.casesOn <;> first | exact congrArg AO.tup (aF h) | exact ap h
theorem cB {o:AO} {vs:List AV} (h:o.lst? = some vs):o = .lst vs:=by induction o using AO.casesOn <;> first | exact congrArg AO.lst (aF h) | exact ap h
theorem kK {o:AO} {vs:List AV} (h:o.pl? = some vs):o = .pl vs:=by induction o using AO.casesOn <;> first | exact congrArg AO.pl (aF h) | exact ap h
theorem nY {o:AO} {vs:List (Str×AV)} (h:o.ns? = some vs):o = .ns vs:=by induction o using AO.casesOn <;> first | exact congrArg AO.ns (aF h) | exact ap h
theorem jR {o:AO} {v:Option AV} (h:o.cell? = some v):o = .cell v:=by induction o using AO.casesOn <;> first | exact congrArg AO.cell (aF h) | exact ap h
theorem sI {o:AO} {v:Nat} (h:o.opq? = some v):o = .opq v:=by induction o using AO.casesOn <;> first | exact congrArg AO.opq (aF h) | exact ap h
theorem oD {o:AO} {p:Addr×Nat} (h:o.inst? = some p):o = .inst p.1 p.2:=by induction o using AO.casesOn <;> first | exact congrArg (fun p:Addr×Nat=>AO.inst p.1 p.2) (aF h) | exact ap h
theorem BE {o:AO} {t:Ty} (h:o.raw? = some t):o = .raw t:=by induction o using AO.casesOn <;> first | exact congrArg AO.raw (aF h) | exact ap h
theorem Gq {o u:AO} (h:o.fz? = some u):o = .fz u:=by induction o using AO.casesOn <;> first | exact congrArg AO.fz (aF h) | exact ap h
theorem mq {o:AO} {b:Nat} (h:o.rf? = some b):o = .rf b:=by induction o using AO.casesOn <;> first | exact congrArg AO.rf (aF h) | exact ap h
theorem ph {o:AO} {p:Nat×List IE} (h:o.il? = some p):o = .il p.1 p.2:=by induction o using AO.casesOn <;> first | exact congrArg (fun p:Nat×List IE=>AO.il p.1 p.2) (aF h) | exact ap h
theorem sG {o:AO} {ps:List (Int×AV)} (h:o.dc? = some ps):o = .dc ps:=by induction o using AO.casesOn <;> first | exact congrArg AO.dc (aF h) | exact ap h
theorem ba {α:Type} {l:List α} {a:α} (h:be l=some a):l = [a]:=by
 induction l using List.casesOn with
 | nil=>exact ap h
 | cons x r=>induction r using List.casesOn with | nil=>exact congrArg (fun x=>[x]) (aF h) | cons=>exact ap h
theorem cq {α:Type} {l:List α} {p:α×α} (h:d9 l=some p):l = [p.1,p.2]:=by
 induction l using List.casesOn with
 | nil=>exact ap h
 | cons x r =>
  induction r using List.casesOn with
  | nil=>exact ap h
  | cons z q=>induction q using List.casesOn with | nil=>exact congrArg (fun p:α×α=>[p.1,p.2]) (aF h) | cons=>exact ap h
inductive All2 {α β:Type} (R:α->β->Prop):List α->List β->Prop
 | nil:All2 R [] []
 | cons {a b l m}:R a b->All2 R l m->All2 R (a::l) (b::m)
theorem All2.n {α β:Type} {R:α->β->Prop} {m:List β} (x:All2 R [] m):m = []:=by cases x; rfl
theorem All2.c {α β:Type} {R:α->β->Prop} {a:α} {l:List α} {m:List β} (x:All2 R (a::l) m):∃b r,m=b::r/\R a b/\All2 R l r:=by cases x with | cons h t=>exact ⟨_,_,rfl,h,t⟩
theorem All2.one {α β:Type} {R:α->β->Prop} {a:α} {m:List β} (x:All2 R [a] m):∃b,m = [b]/\R a b:=let ⟨b,_,e,h,t⟩:=x.c; ⟨b,e.trans (congrArg (b :: ·) t.n),h⟩
theorem All2.two {α β:Type} {R:α->β->Prop} {a a':α} {m:List β} (x:All2 R [a,a'] m):∃b b',m = [b,b']/\R a b/\R a' b':=let ⟨b,_,e,h,t⟩:=x.c; let ⟨b',e',h'⟩:=t.one; ⟨b,b',e.trans (congrArg (b :: ·) e'),h,h'⟩
theorem All2.mono {α β:Type} {R R':α->β->Prop} (k:∀a b,R a b->R' a b) {l:List α} {m:List β} (x:All2 R l m):All2 R' l m:=by
 induction x with | nil=>exact .nil | cons h _ ih=>exact .cons (k _ _ h) ih
theorem All2.len {α β:Type} {R:α->β->Prop} {l:List α} {m:List β} (x:All2 R l m):l.length=m.length:=by
 induction x with | nil=>rfl | cons _ _ ih=>simp [ih]
theorem All2.get {α β:Type} {R:α->β->Prop} {l:List α} {m:List β} (x:All2 R l m):∀{i:Nat} {a:α},l[i]? = some a->∃b,m[i]? = some b/\R a b:=by
 induction x with
 | nil=>intro i a e; simp at e
 | cons h _ ih =>
  intro i a e
  induction i using Nat.casesOn with
  | zero=>simp at e; subst e; exact ⟨_,rfl,h⟩
  | succ i=>simp at e; simpa using ih e
theorem All2.app {α β:Type} {R:α->β->Prop} {l l':List α} {m m':List β} (x:All2 R l m) (y:All2 R l' m'):All2 R (l++l') (m++m'):=by
 induction x with | nil=>exact y | cons h _ ih=>exact .cons h ih
theorem All2.drop {α β:Type} {R:α->β->Prop} {l:List α} {m:List β} (x:All2 R l m):∀n,All2 R (l.drop n) (m.drop n):=by
 induction x with
 | nil=>intro n; simp; exact .nil
 | cons h t ih=>intro n; induction n using Nat.casesOn with | zero=>exact .cons h t | succ n=>simpa using ih n
def Dn (ρ:Rho) (as:List Addr):AV->Value->Prop
 | .none,V=>V = .none
 | .bool b,V=>V = .bool b
 | .int e,V=>∃t,V = .int (e.den ρ) t
 | .str x,V=>∃t,V = .str x t
 | .loc i,V=>∃a,as[i]? = some a/\V = .ref a
 | .glb v,V=>V=v
 | .any,_=>True
def aM (as as':List Addr):Prop:=∃t,as'=as++t
theorem aM.refl {as:List Addr}:aM as as:=⟨[],by simp⟩
theorem aM.trans {a b c:List Addr} (x:aM a b) (y:aM b c):aM a c:=by
 obtain ⟨t,rfl⟩:=x; obtain ⟨u,rfl⟩:=y; exact ⟨t++u,by simp⟩
theorem aM.get {a b:List Addr} (x:aM a b) {i:Nat} {y:Addr} (e:a[i]? = some y):b[i]? = some y:=by
 obtain ⟨t,rfl⟩:=x
 refine aa (List.getElem?_append_left (by have:=(List.getElem?_eq_some_iff.mp e).1; exact this)) ?_; exact e
theorem Dn.pre {ρ:Rho} {as as':List Addr} (p:aM as as') {v:AV} {V:Value} (d:Dn ρ as v V):Dn ρ as' v V:=by
 induction v using AV.casesOn <;> try exact d
 obtain ⟨a,e,q⟩:=d
 exact ⟨a,p.get e,q⟩
def Nm (ρ:Rho) (as:List Addr) (p:Str×AV) (q:Str×Value):Prop:=p.1=q.1/\Dn ρ as p.2 q.2
theorem Nm.pre {ρ:Rho} {as as':List Addr} (p:aM as as') {x:Str×AV} {y:Str×Value} (d:Nm ρ as x y):Nm ρ as' x y:=⟨d.1,d.2.pre p⟩
theorem bn {ρ:Rho} {as:List Addr} {ls:List (Str×AV)} {Ls:List (Str×Value)} (x:All2 (Nm ρ as) ls Ls) {n:Str}:match ls.lookup n with
  | some v=>∃V,Ls.lookup n=some V/\Dn ρ as v V
  | none=>Ls.lookup n=none:=by
 induction x with
 | nil=>rfl
 | @cons a b l m h _ ih =>
  obtain ⟨a1,a2⟩:=a; obtain ⟨b1,b2⟩:=b
  obtain ⟨h1,h2⟩:=h
  dsimp only at h1 h2
  subst h1
  simp only [List.lookup]
  induction q:n == a1 with
  | true=>exact ⟨b2,rfl,h2⟩
  | false=>exact ih
structure Opq where
 g:Gr
 p:Nat->Addr->Prop
 n1:∀a,p 1 a->∃Vs,Vs≠[]/\At g a (.lst Vs)
 n2:∀a,p 2 a->At g a (.lst [])
def DQ (ρ:Rho) (as:List Addr) (v:Option AV) (V:Option Value):Prop:=match v with
 | none=>True
 | some x=>∃y,V=some y/\Dn ρ as x y
noncomputable def ak (z:Int):Value:=.ref z.toNat
def fu (g:Gr) (a:Addr) (kvs:List (Int×Value)):Prop:=(a == sysModules)=false/\∃o,g a=some o/\∀w,o.IsDictOf (intKind pr w) kvs
def Kv (ρ:Rho) (as:List Addr) (p:Int×AV) (q:Int×Value):Prop:=p.1=q.1/\Dn ρ as p.2 q.2
theorem Kv.pre {ρ:Rho} {as as':List Addr} (p:aM as as') {x:Int×AV} {y:Int×Value} (d:Kv ρ as x y):Kv ρ as' x y:=⟨d.1,d.2.pre p⟩
theorem fu.le {g g':Gr} {a:Addr} {kvs:List (Int×Value)} (k:∀x,g a=some x->g' a=some x) (x:fu g a kvs):fu g' a kvs:=let ⟨n,o,e,z⟩:=x; ⟨n,o,k _ e,z⟩
def aO (ρ:Rho) (as:List Addr) (g:Gr) (a:Addr):AO->Prop
 | .lst vs=>∃Vs,All2 (Dn ρ as) vs Vs/\At g a (.lst Vs)
 | .tup vs=>∃Vs,All2 (Dn ρ as) vs Vs/\At g a (.tup Vs)
 | .ns fs=>∃Fs,All2 (Nm ρ as) fs Fs/\At g a (.ns Fs)
 | .inst C j=>∃dx,as[j]? = some dx/\At g a (.inst C dx)
 | .cell v=>∃V,DQ ρ as v V/\At g a (.cell V)
 | .il b es=>∃Vs,IntsAre Vs (ρ.l b++es.map (IE.den ρ))/\At g a (.pl Vs)
 | .raw t=>At g a t
 | .pl vs=>∃Vs,All2 (Dn ρ as) vs Vs/\At g a (.pl Vs)
 | .rf b=>At g a (.pl ((ρ.l b).map ak))
 | .dc ps=>∃kvs,All2 (Kv ρ as) ps kvs/\fu g a kvs
 | _=>False
def aC (ρ:Rho) (O:Opq) (as:List Addr) (h:Heap) (a:Addr):AO->Prop
 | .opq k=>(∃x,O.g a=some x)/\O.p k a
 | .lit j i=>∃l,as[j]? = some l/\h.IsListIter a l i
 | .tit j i=>∃l,as[j]? = some l/\IsTupIter h a l i
 | .dead=>True
 | .fz o=>aO ρ as O.g a o
 | .lst vs=>aO ρ as h.get? a (.lst vs)
 | .tup vs=>aO ρ as h.get? a (.tup vs)
 | .ns fs=>aO ρ as h.get? a (.ns fs)
 | .inst C j=>aO ρ as h.get? a (.inst C j)
 | .cell v=>aO ρ as h.get? a (.cell v)
 | .il b es=>aO ρ as h.get? a (.il b es)
 | .raw t=>aO ρ as h.get? a (.raw t)
 | .pl vs=>aO ρ as h.get? a (.pl vs)
 | .rf b=>aO ρ as h.get? a (.rf b)
 | .dc ps=>aO ρ as h.get? a (.dc ps)
noncomputable def AO.own:AO->Bool | .opq _=>false | .dead=>false | .fz _=>false | _=>true
theorem aO.keep {ρ:Rho} {as as':List Addr} (p:aM as as') {g g':Gr} {a:Addr} {o:AO} (k:∀x,g a=some x->g' a=some x) (x:aO ρ as g a o):aO ρ as' g' a o:=by
 induction o using AO.casesOn with
 | lst vs=>obtain ⟨Vs,y,z⟩:=x; exact ⟨Vs,y.mono fun zw zw q=>q.pre p,z.le k⟩
 | tup vs=>obtain ⟨Vs,y,z⟩:=x; exact ⟨Vs,y.mono fun zw zw q=>q.pre p,z.le k⟩
 | ns fs=>obtain ⟨Vs,y,z⟩:=x; exact ⟨Vs,y.mono fun zw zw q=>q.pre p,z.le k⟩
 | inst C j=>obtain ⟨dx,y,z⟩:=x; exact ⟨dx,p.get y,z.le k⟩
 | cell v =>
  obtain ⟨V,y,z⟩:=x
  refine ⟨V,?_,z.le k⟩
  induction v with
  | none=>trivial
  | some v=>obtain ⟨u,e,d⟩:=y; exact ⟨u,e,d.pre p⟩
 | il b es=>obtain ⟨Vs,y,z⟩:=x; exact ⟨Vs,y,z.le k⟩
 | raw t=>exact At.le x k
 | pl vs=>obtain ⟨Vs,y,z⟩:=x; exact ⟨Vs,y.mono fun zw zw q=>q.pre p,z.le k⟩
 | rf b=>exact At.le x k
 | dc ps=>obtain ⟨Vs,y,z⟩:=x; exact ⟨Vs,y.mono fun zw zw q=>q.pre p,z.le k⟩
 | opq _=>exact x.elim
 | lit _ _=>exact x.elim
 | tit _ _=>exact x.elim
 | dead=>exact x.elim
 | fz _=>exact x.elim
theorem aO.at {ρ:Rho} {O:Opq} {as:List Addr} {h:Heap} {G:Gr} {a:Addr} {o:AO} (k:∀x,G a=some x->h.get? a=some x) (x:aO ρ as G a o):aC ρ O as h a o:=by
 have y:=x.keep .refl k
 induction o using AO.casesOn <;> first | exact y | exact y.elim
theorem aC.keep {ρ:Rho} {O:Opq} {as as':List Addr} (p:aM as as') {h h':Heap} {a:Addr} {o:AO} (k:o.own=true->∀x,h.get? a=some x->h'.get? a=some x) (x:aC ρ O as h a o):aC ρ O as' h' a o:=by
 induction o using AO.casesOn with
 | opq i=>exact x
 | lit j i=>obtain ⟨l,y,o,z1,z2⟩:=x; exact ⟨l,p.get y,o,k rfl _ z1,z2⟩
 | tit j i=>obtain ⟨l,y,o,z1,z2⟩:=x; exact ⟨l,p.get y,o,k rfl _ z1,z2⟩
 | dead=>trivial
 | fz o=>exact aO.keep p (fun zw e=>e) x
 | lst vs=>exact aO.keep (o:=.lst vs) p (k rfl) x
 | tup vs=>exact aO.keep (o:=.tup vs) p (k rfl) x
 | ns fs=>exact aO.keep (o:=.ns fs) p (k rfl) x
 | inst C j=>exact aO.keep (ρ:=ρ) (o:=.inst C j) p (k rfl) x
 | cell v=>exact aO.keep (o:=.cell v) p (k rfl) x
 | il b es=>exact aO.keep (o:=.il b es) p (k rfl) x
 | raw t=>exact aO.keep (ρ:=ρ) (as:=as) (as':=as') (o:=.raw t) p (k rfl) x
 | pl vs=>exact aO.keep (o:=.pl vs) p (k rfl) x
 | rf b=>exact aO.keep (ρ:=ρ) (as:=as) (as':=as') (o:=.rf b) p (k rfl) x
 | dc ps=>exact aO.keep (o:=.dc ps) p (k rfl) x
theorem At.pl {g:Gr} {a:Addr} {vs:List Value} (x:At g a (.pl vs)):At g a (.lst vs):=by
 obtain ⟨o,e,n,rfl⟩:=x
 exact ⟨_,e,rfl,n,rfl⟩
theorem aO.pl {ρ:Rho} {as:List Addr} {g:Gr} {a:Addr} {vs:List AV} (x:aO ρ as g a (.pl vs)):aO ρ as g a (.lst vs):=let ⟨Vs,y,z⟩:=x; ⟨Vs,y,z.pl⟩
theorem aC.view {ρ:Rho} {O:Opq} {as:List Addr} {h:Heap} {G:Gr} (kp:∀a o,G a=some o->h.get? a=some o) (og:∀a o,O.g a=some o->G a=some o) {a:Addr} {o:AO} (x:aC ρ O as h a o):aC ρ O as h a o.view:=by
 have vw:∀{o:AO},aC ρ O as h a o->aC ρ O as h a o.vw:=fun {o} x=>by induction o using AO.casesOn <;> first | exact x | exact aO.pl x
 refine vw ?_
 induction o using AO.casesOn <;> first | exact x | exact aO.at (fun x ex=>kp a _ (og a _ ex)) x
def Fm (ρ:Rho) (O:Opq) (h:Heap) (s:St) (as:List Addr):Prop:=∀i o,s.at i=some o->∃a,as[i]? = some a/\aC ρ O as h a o
section
variable {ρ:Rho} {O:Opq} {h:Heap} {s:St} {as:List Addr} (T:Fm ρ O h s as) {v:AV} {V:Value}
include T
theorem mh {o:AO} (e:(v.l?.bind s.at)=some o) (d:Dn ρ as v V):∃x,V = .ref x/\aC ρ O as h x o:=by
 apply bc;intro ng
 obtain ⟨i,e1,e2⟩:=az e
 rw [bN e1] at d
 obtain ⟨x,ex,hv⟩:=d
 obtain ⟨a,ea,z⟩:=T i o e2
 apply ng;clear ng
 rw [ex] at ea
 exact ⟨x,hv,aF ea▸z⟩
theorem eA {vs:List AV} (e:lstAt s v=some vs) (d:Dn ρ as v V):∃x Vs,V = .ref x/\All2 (Dn ρ as) vs Vs/\h.IsList x Vs.toArray:=by
 apply bc;intro ng
 obtain ⟨o,e3,e4⟩:=az e
 obtain ⟨x,hv,z⟩:=mh T e3 d
 rw [cB e4] at z
 obtain ⟨Vs,z⟩:=z
 apply ng;clear ng
 exact ⟨x,Vs,hv,z⟩
theorem bD {vs:List AV} (e:tupAt s v=some vs) (d:Dn ρ as v V):∃x Vs,V = .ref x/\All2 (Dn ρ as) vs Vs/\IsTup h x Vs.toArray:=by
 apply bc;intro ng
 obtain ⟨o,e3,e4⟩:=az e
 obtain ⟨x,hv,z⟩:=mh T e3 d
 rw [cY e4] at z
 obtain ⟨Vs,z⟩:=z
 apply ng;clear ng
 exact ⟨x,Vs,hv,z⟩
end
structure Co (w:World) (ρ:Rho) (O:Opq) (G:Gr) (h:Heap) (l:List AO) (pc:List (CE×Bool)) (as:List Addr):Prop where
 bs:∃hb,Wd w hb/\∀a o,hb.get? a=some o->G a=some o
 kp:∀a o,G a=some o->h.get? a=some o
 og:∀a o,O.g a=some o->G a=some o
 sz:as.length=l.length
 ob:∀(i:Nat) o a,l[i]? = some o->as[i]? = some a->aC ρ O as h a o/\(o.own=true->G a=none)
 nd:∀(i j:Nat) o o' a,l[i]? = some o->l[j]? = some o'->o.own=true->o'.own=true->as[i]? = some a->as[j]? = some a->i=j
 pc:∀p∈pc,p.1.den ρ↔p.2=true
structure SR (w:World) (ρ:Rho) (O:Opq) (G:Gr) (env:Env) (h:Heap) (s:St) (as:List Addr):Prop where
 bs:∃hb,Wd w hb/\∀a o,hb.get? a=some o->G a=some o
 kp:∀a o,G a=some o->h.get? a=some o
 og:∀a o,O.g a=some o->G a=some o
 fL:G env.locals=none
 eg:env.globals=mainGlobals
 eb:env.builtins=builtinsNs
 ek:env.scope.kind = .function
 lc:∃f,h.Ns env.locals f/\∀x v,s.ls.lookup x=some v->∃V,f x=some V/\Dn ρ as v V
 cc:∀x i,s.cl.lookup x=some i->∃a,as[i]? = some a/\env.cells.lookup x=some a
 sz:as.length=s.ob.length
 ob:∀(i:Nat) o a,s.ob[i]? = some o->as[i]? = some a->aC ρ O as h a o/\(o.own=true->a≠env.locals/\G a=none)
 nd:∀(i j:Nat) o o' a,s.ob[i]? = some o->s.ob[j]? = some o'->o.own=true->o'.own=true->as[i]? = some a->as[j]? = some a->i=j
 pc:∀p∈s.pc,p.1.den ρ↔p.2=true
section
variable {w:World} {ρ:Rho} {O:Opq} {G:Gr} {env:Env} {h h':Heap} {s s':St} {as:List Addr}
theorem SR.wd (S:SR w ρ O G env h s as):Wd w h:=let ⟨hb,W,k⟩:=S.bs; W.keeps fun a o e=>S.kp a o (k a o e)
theorem SR.k (S:SR w ρ O G env h s as):(K w.params).In h:=S.wd.k
theorem SR.get (S:SR w ρ O G env h s as) {i:Nat} {o:AO} (e:s.ob[i]? = some o):∃a,as[i]? = some a/\aC ρ O as h a o/\(o.own=true->a≠env.locals/\G a=none):=by
 have hl:i < as.length:=by refine aa S.sz ?_; exact (List.getElem?_eq_some_iff.mp e).1
 exact ⟨as[i],List.getElem?_eq_getElem hl,S.ob i o _ e (List.getElem?_eq_getElem hl)⟩
theorem SR.at (S:SR w ρ O G env h s as) {i:Nat} {o:AO} (e:s.at i=some o):∃a,as[i]? = some a/\aC ρ O as h a o:=by
 unfold St.at at e
 induction q:s.ob[i]? with
 | none=>rw [q] at e; exact ap e
 | some o' =>
  rw [q] at e
  obtain ⟨a,x,y,-⟩:=S.get q
  cases e
  exact ⟨a,x,y.view S.kp S.og⟩
theorem SR.hat (S:SR w ρ O G env h s as):Fm ρ O h s as:=fun i o e=>S.at e
theorem nA {p:Prop} [Decidable p] {b:Bool} (e:decide p=b):p↔b=true:=e▸decide_eq_true_iff.symm
theorem fR {a b:IE} {p:Int×Int} (e:aq a.c? b.c? = some p):a.den ρ=p.1/\b.den ρ=p.2:=by
 obtain ⟨e1,e2⟩:=ah e
 refine aa (bP e1) (aa (bP e2) ?_); exact ⟨rfl,rfl⟩
theorem jT {a b:IE} {f:Int->Int->Bool} {t r:Bool} (h:∀x,f x x=t) (e:ma a b f t=some r):f (a.den ρ) (b.den ρ)=r:=by
 unfold ma at e
 induction hp:aq a.c? b.c? with
 | some p =>
  rw [hp] at e
  obtain ⟨e1,e2⟩:=fR (ρ:=ρ) hp
  refine aa e1 (aa e2 ?_); exact aF e
 | none =>
  rw [hp] at e
  obtain ⟨q,e⟩:=cU e
  rw [IE.same_ok q,h]; exact aF e
set_option tactic.hygienic true
theorem CE.dec_ok {c:CE} {b:Bool} (e:c.dec=some b):c.den ρ↔b=true:=by
 induction c using CE.casesOn <;> try exact ap e
 ·rename_i x z
  have e:ma x z (fun a b=>decide (a < b)) false=some b:=e
  show x.den ρ < z.den ρ↔_
  exact @nA (x.den ρ < z.den ρ) _ _ (jT (ρ:=ρ) (fun x=>decide_eq_false (Int.lt_irrefl x)) e)
 ·rename_i x z
  have e:ma x z (fun a b=>decide (a<=b)) true=some b:=e
  show x.den ρ<=z.den ρ↔_
  exact @nA (x.den ρ<=z.den ρ) _ _ (jT (ρ:=ρ) (fun x=>decide_eq_true (Int.le_refl x)) e)
 ·rename_i x z
  have e:ma x z (fun a b=>decide (a=b)) true=some b:=e
  show x.den ρ=z.den ρ↔_
  exact @nA (x.den ρ=z.den ρ) _ _ (jT (ρ:=ρ) (fun x=>decide_eq_true rfl) e)
set_option tactic.hygienic false
theorem SR.pcs (S:SR w ρ O G env h s as) {pc:List (CE×Bool)} (k:∀p∈pc,p.1.den ρ↔p.2=true):SR w ρ O G env h { s with pc:=pc } as:=⟨S.bs,S.kp,S.og,S.fL,S.eg,S.eb,S.ek,S.lc,S.cc,S.sz,S.ob,S.nd,k⟩
theorem oZ {post:Fl->St->Prop} {P:Prop} {c:CE} {k:Bool->St->Tr} (S:SR w ρ O G env h s as) (y:(s.ask c k).ok ρ post)
  (q:∀b s',(c.den ρ↔b=true)->s'.ob=s.ob->(k b s').ok ρ post->SR w ρ O G env h s' as->P):P:=by
 unfold St.ask at y
 induction hd:c.dec with
 | some b=>rw [hd] at y; exact q b s (CE.dec_ok hd) rfl y S
 | none =>
  rw [hd] at y
  induction hl:ze s.pc c with
  | some b=>rw [hl] at y; exact q b s (S.pc _ (oK hl)) rfl y S
  | none =>
   rw [hl] at y
   have nw:∀b,(c.den ρ↔b=true)->SR w ρ O G env h { s with pc:=(c,b)::s.pc } as:=fun b hb=>S.pcs fun p m=>by cases m with | head=>exact hb | tail _ m=>exact S.pc p m
   rcases Classical.em (c.den ρ) with hc | hc
   ·exact q true { s with pc:=(c,true)::s.pc } ⟨fun zw=>rfl,fun zw=>hc⟩ rfl (y.1 hc) (nw true ⟨fun zw=>rfl,fun zw=>hc⟩)
   ·exact q false { s with pc:=(c,false)::s.pc } ⟨fun z=>absurd z hc,fun z=>nomatch z⟩ rfl (y.2 hc) (nw false ⟨fun z=>absurd z hc,fun z=>nomatch z⟩)
theorem eD {post:Fl->St->Prop} {P:Prop} {c:CE} {k:Bool->St->Tr} (S:SR w ρ O G env h s as) (y:(s.ask c k).ok ρ post)
  (q:∀b s',(c.den ρ↔b=true)->(k b s').ok ρ post->SR w ρ O G env h s' as->P):P:=oZ S y fun b s' e zw=>q b s' e
theorem ij {post:Fl->St->Prop} {c:CE} {t:Tr} (y:(qi c t).ok ρ post):c.den ρ/\t.ok ρ post:=by
 unfold qi at y
 induction hd:c.dec with
 | none=>rw [hd] at y; exact y
 | some b =>
  rw [hd] at y
  induction b with
  | true=>exact ⟨(CE.dec_ok hd).mpr rfl,y⟩
  | false=>exact y
theorem lK {a:IE} (e:small a=true):Builtin.Int.intBits (a.den ρ)<=64:=by
 unfold small at e
 induction hc:a.c? with
 | none=>rw [hc] at e; exact bH e
 | some n =>
  rw [hc] at e
  refine aa (bP hc) ?_
  have e:n.natAbs < 2 ^ 60:=of_decide_eq_true e
  show Builtin.Int.intBits n<=64
  unfold Builtin.Int.intBits
  split
  ·exact Nat.zero_le _
  ·rename_i hn
   have hn:n≠0:=by simpa using hn
   have:=(Nat.log2_lt (n:=n.natAbs) (k:=60) (by (first | lia | omega))).mpr e; (first | lia | omega)
theorem rA {post:Fl->St->Prop} {a b:IE} {t:Tr} (y:(t9 a b t).ok ρ post):IntMulOk (a.den ρ) (b.den ρ)/\t.ok ρ post:=by
 unfold t9 at y
 split at y
 ·rename_i e
  refine ⟨?_,y⟩
  rcases Bool.or_eq_true_iff.mp e with e | e
  ·exact IntMulOk.of_left (lK e)
  ·exact IntMulOk.of_right (lK e)
 ·exact y
theorem lJ {a b:IE}:(a.add' b).den ρ=a.den ρ + b.den ρ:=by
 unfold IE.add'
 induction e:aq a.c? b.c? with
 | none=>rfl
 | some p=>refine aa ((fR (ρ:=ρ) e).1) (aa ((fR (ρ:=ρ) e).2) ?_); rfl
theorem rr {a b:IE}:(a.sub' b).den ρ=a.den ρ - b.den ρ:=by
 unfold IE.sub'
 induction e:aq a.c? b.c? with
 | none=>rfl
 | some p=>refine aa ((fR (ρ:=ρ) e).1) (aa ((fR (ρ:=ρ) e).2) ?_); rfl
theorem tx {a b:IE}:(a.mul' b).den ρ=a.den ρ * b.den ρ:=by
 unfold IE.mul'
 induction e:aq a.c? b.c? with
 | none=>rfl
 | some p=>refine aa ((fR (ρ:=ρ) e).1) (aa ((fR (ρ:=ρ) e).2) ?_); rfl
theorem si {a:IE}:a.neg'.den ρ = -(a.den ρ):=by
 unfold IE.neg'
 induction e:a.c? with
 | none=>rfl
 | some p=>refine aa (bP e) ?_; rfl
theorem sS {a:IE}:a.abs'.den ρ=if a.den ρ < 0 then -(a.den ρ) else a.den ρ:=by
 unfold IE.abs'
 induction e:a.c? with
 | none=>rfl
 | some p=>refine aa (bP e) ?_; rfl
end
section
variable {w:World} {ρ:Rho} {O:Opq} {G:Gr} {env:Env} {h h':Heap} {s s':St} {as:List Addr} {A:Around} {E:Value->Shared->Prop} {gs:Array GenState} {dr:Drawn} {n:Nat} {os:OsState} {post:Fl->St->Prop}
theorem hS {c:Prop} [Decidable c] {b:Bool} (e:c↔b=true):decide c=b:=by induction b using Bool.casesOn <;> simp_all
theorem nK {a b:Int} {c:Bool} (e:a=b↔c=true):(a == b)=c:=by induction c using Bool.casesOn <;> simp_all
theorem bF {a b:AV} {V U:Value} {p:IE×IE} (e:aq a.i? b.i? = some p) (d:Dn ρ as a V) (d':Dn ρ as b U):∃t u,V = .int (p.1.den ρ) t/\U = .int (p.2.den ρ) u:=by
 apply bc;intro ng
 obtain ⟨e1,e2⟩:=ah e
 rw [cP e1] at d; rw [cP e2] at d'
 obtain ⟨t,d⟩:=d; obtain ⟨u,d'⟩:=d'
 apply ng;clear ng
 exact ⟨t,u,d,d'⟩
theorem pz {a b:AV} {V U:Value} {p:Nat×Nat} (e:aq a.l? b.l? = some p) (d:Dn ρ as a V) (d':Dn ρ as b U):∃x z,as[p.1]? = some x/\as[p.2]? = some z/\V = .ref x/\U = .ref z:=by
 apply bc;intro ng
 obtain ⟨e1,e2⟩:=ah e
 rw [bN e1] at d; rw [bN e2] at d'
 obtain ⟨t,a1,d⟩:=d; obtain ⟨u,a2,d'⟩:=d'
 apply ng;clear ng
 exact ⟨t,u,a1,a2,d,d'⟩
theorem SR.vw {α:Type} {f:AO->Option α} {c:α->AO} (hf:∀{o:AO} {x:α},f o=some x->o=c x) (S:SR w ρ O G env h s as) {i:Nat} {a:Addr} {x:α} (e:(s.at i).bind f=some x) (ea:as[i]? = some a):aC ρ O as h a (c x):=by
 obtain ⟨o,e1,e2⟩:=az e
 obtain ⟨a',a1,a2⟩:=S.at e1
 rw [ea] at a1
 rw [hf e2,<- aF a1] at a2; exact a2
theorem su {a b:AV} {V U:Value} {c:Bool} (e:IQ a b=some c) (d:Dn ρ as a V) (d':Dn ρ as b U):plainIs V U=true/\(V == U)=c:=by
 induction b using AV.casesOn <;> try exact ap e
 have d':U = .none:=d'
 subst d'
 induction a using AV.casesOn <;> try exact ap e
 ·have d:V = .none:=d
  subst d; exact ⟨rfl,aF e⟩
 ·obtain ⟨t,rfl⟩:=d; exact ⟨rfl,aF e⟩
 ·obtain ⟨t,_,rfl⟩:=d; exact ⟨rfl,aF e⟩
theorem dI {op:CmpOp} {a b:AV} {k:Bool->St->Tr} {V U:Value} {Q:Value->Shared->Prop} (hu:A.units < cLine) (y:(gG op a b s k).ok ρ post) (S:SR w ρ O G env h s as) (d:Dn ρ as a V) (d':Dn ρ as b U)
  (q:∀c s' n',(k c s').ok ρ post->SR w ρ O G env h s' as->Q (.bool c) ⟨h,gs,dr,n',os⟩):wpAny (model pr w) A (compareOp op V U) Q E ⟨h,gs,dr,n,os⟩:=by
 induction op using CmpOp.casesOn <;> try exact y.elim
 ·rcases cE y with ⟨p,e,y⟩ | ⟨-,y⟩
  ·obtain ⟨t,u,rfl,rfl⟩:=bF e d d'
   exact eD S y fun c s' e y S=>PyProof.Rows.eq_int (by refine aa (nK e) ?_; exact q _ _ _ y S)
  ·rcases cE y with ⟨p,e,y⟩ | ⟨-,y⟩
   ·obtain ⟨e1,e2⟩:=ah e
    rw [nu e1] at d; rw [nu e2] at d'
    apply bc;intro ng
    obtain ⟨t,rfl⟩:=d; obtain ⟨u,rfl⟩:=d'
    apply ng;clear ng
    exact PySem.EqBoolInt.of_rc (s:=⟨h,gs,dr,n,os⟩) (SeqAt.RcAt.str_str _ _ _ _) (q _ _ _ y S)
   ·obtain ⟨p,e,y⟩:=af y
    apply bc;intro ng
    obtain ⟨e1,e2⟩:=ah e
    apply ng;clear ng
    rw [xA e1] at d; rw [xA e2] at d'
    subst d; subst d'
    exact PySem.EqBoolInt.of_rc (s:=⟨h,gs,dr,n,os⟩) (SeqAt.RcAt.bool_bool _ _) (q _ _ _ y S)
 ·rcases cE y with ⟨p,e,y⟩ | ⟨-,y⟩
  ·obtain ⟨t,u,rfl,rfl⟩:=bF e d d'
   exact eD S y fun c s' e y S=>PyProof.Rows.ne_int (by rw [bne,nK e]; exact q _ _ _ y S)
  ·obtain ⟨p,e,y⟩:=af y
   apply bc;intro ng
   obtain ⟨x,z,e1,e2,rfl,rfl⟩:=pz e d d'
   obtain ⟨r,e,y⟩:=af y
   obtain ⟨f1,f2⟩:=ah e
   obtain ⟨f3,y⟩:=aj y
   obtain ⟨-,a3⟩:=S.vw (c:=.opq) sI f1 e1
   obtain ⟨Vs,b2,b3⟩:=S.vw (c:=.lst) cB f2 e2
   apply ng;clear ng
   rw [List.isEmpty_iff.mp f3] at b2
   cases b2
   have l2:h.IsList z #[]:=b3
   rcases cG y with ⟨c1,y⟩ | ⟨-,y⟩
   ·rw [eq_of_beq c1] at a3
    apply bc;intro ng
    obtain ⟨Us,u1,u2⟩:=O.n1 _ a3
    apply ng;clear ng
    have l1:h.IsList x Us.toArray:=u2.le fun o e=>S.kp _ _ (S.og _ _ e)
    exact PySem.EqBoolInt.of_rcne (s:=⟨h,gs,dr,n,os⟩) (SeqAt.RcNeAt.lists_lengths l1 l2 (by induction Us using List.casesOn with | nil=>exact absurd rfl u1 | cons=>simp) hu) (q _ _ _ y S)
   ·obtain ⟨c1,y⟩:=aj y
    rcases cG y with ⟨-,y⟩ | ⟨-,y⟩
    ·exact y.elim
    ·rw [eq_of_beq c1] at a3
     have l1:h.IsList x #[]:=(O.n2 _ a3).le fun o e=>S.kp _ _ (S.og _ _ e)
     exact PySem.EqBoolInt.of_rcne (s:=⟨h,gs,dr,n,os⟩) (SeqAt.RcNeAt.lists (e:=fun zw=>true) l1 l2 rfl hu fun j h1=>(Nat.not_lt_zero _ h1).elim) (q _ _ _ y S)
 ·obtain ⟨p,e,y⟩:=af y
  apply bc;intro ng
  obtain ⟨t,u,rfl,rfl⟩:=bF e d d'
  apply ng;clear ng
  exact eD S y fun c s' e y S=>PyProof.Rows.lt_int (by refine aa (show decide (_ < _)=c from hS e) ?_; exact q _ _ _ y S)
 ·obtain ⟨p,e,y⟩:=af y
  apply bc;intro ng
  obtain ⟨t,u,rfl,rfl⟩:=bF e d d'
  apply ng;clear ng
  exact eD S y fun c s' e y S=>PyProof.Rows.le_int (by refine aa (show decide (_<=_)=c from hS e) ?_; exact q _ _ _ y S)
 ·obtain ⟨p,e,y⟩:=af y
  apply bc;intro ng
  obtain ⟨t,u,rfl,rfl⟩:=bF e d d'
  apply ng;clear ng
  exact eD S y fun c s' e y S=>PyProof.Rows.gt_int (by refine aa (show decide (_ < _)=c from hS e) ?_; exact q _ _ _ y S)
 ·obtain ⟨p,e,y⟩:=af y
  apply bc;intro ng
  obtain ⟨t,u,rfl,rfl⟩:=bF e d d'
  apply ng;clear ng
  exact eD S y fun c s' e y S=>PyProof.Rows.ge_int (by refine aa (show decide (_<=_)=c from hS e) ?_; exact q _ _ _ y S)
 ·obtain ⟨c,e,y⟩:=af y
  apply bc;intro ng
  obtain ⟨e1,e2⟩:=su e d d'
  apply ng;clear ng
  exact wpAny_is_plain e1 (by refine aa e2 ?_; exact q _ _ _ y S)
 ·obtain ⟨c,e,y⟩:=af y
  apply bc;intro ng
  obtain ⟨e1,e2⟩:=su e d d'
  apply ng;clear ng
  exact wpAny_isNot_plain e1 (by refine aa e2 ?_; exact q _ _ _ y S)
theorem ig {a:AV} {k:Bool->St->Tr} {V:Value} {Q:Bool->Shared->Prop} (y:(qD a s k).ok ρ post) (S:SR w ρ O G env h s as) (d:Dn ρ as a V)
  (q:∀c s' n',(k c s').ok ρ post->SR w ρ O G env h s' as->Q c ⟨h,gs,dr,n',os⟩):wpAny (model pr w) A (truthy V) Q E ⟨h,gs,dr,n,os⟩:=by
 induction a using AV.casesOn <;> try exact y.elim
 ·subst d; exact PyProof.Rows.truthy_none (q _ _ _ y S)
 ·subst d; exact wpAny_truthy_bool (q _ _ _ y S)
 ·obtain ⟨t,rfl⟩:=d
  exact eD S y fun c s' e y S=>PyProof.Rows.truthy_int (by
   have e2:(IE.den ρ _ == 0)=c:=nK e
   rw [bne,e2]; exact q _ _ _ y S)
theorem kW {v:Value}:Dn ρ as (jq v) v:=by
 induction v using Value.casesOn <;> first | rfl | exact ⟨_,rfl⟩
theorem jc:bootBuiltins (Str.ofString "isinstance")=some (.builtin "isinstance"):=by boot_fast
theorem B5:bootBuiltins (Str.ofString "abs")=some (.builtin "abs"):=by boot_fast
theorem zV:bootBuiltins (Str.ofString "max")=some (.builtin "max"):=by boot_fast
theorem Cg:bootBuiltins (Str.ofString "sum")=some (.builtin "sum"):=by boot_fast
theorem Au:bootBuiltins (Str.ofString "len")=some (.builtin "len"):=by boot_fast
theorem Bi:bootBuiltins (Str.ofString "int")=some (.type "int"):=by boot_fast
theorem xv:bootBuiltins (Str.ofString "bool")=some (.type "bool"):=by boot_fast
theorem rm:bootBuiltins (Str.ofString "tuple")=some (.type "tuple"):=by boot_fast
theorem Bc:bootBuiltins (Str.ofString "str")=some (.type "str"):=by boot_fast
theorem wM:bootBuiltins (Str.ofString "dict")=some (.type "dict"):=by boot_fast
theorem kr:bootBuiltins (Str.ofString "enumerate")=some (.type "enumerate"):=by boot_fast
theorem wG:bootBuiltins (Str.ofString "list")=some (.type "list"):=by boot_fast
noncomputable def oH:List (Str×Value)->Prop | []=>True | p::r=>bootBuiltins p.1=some p.2/\oH r
theorem oH.ok {l:List (Str×Value)} (H:oH l) {y:Str} {u:Value} (e:l.lookup y=some u):bootBuiltins y=some u:=by
 induction l with
 | nil=>exact ap e
 | cons p r ih =>
  have e:(match y == p.1 with | true=>some p.2 | false=>r.lookup y)=some u:=e
  induction q:y == p.1 with
  | true=>rw [q] at e; refine aa (aD q) (aa (Eq.symm (aF e)) ?_); exact H.1
  | false=>rw [q] at e; exact ih H.2 e
theorem z6 {x:Str} {v:Value} (e:blt x=some v) (hn:(x == Str.ofString "__name__")=false):bootBuiltins x=some v :=
 oH.ok (l:=EM) (And.intro jc (And.intro B5 (And.intro zV (And.intro Cg (And.intro Au (And.intro Bi (And.intro xv (And.intro rm (And.intro wG (And.intro Bc (And.intro wM (And.intro kr trivial)))))))))))) e
theorem pV {x:Str} {v:AV} (S:SR w ρ O G env h s as) (e:sO s x=some v):∃a V,env.cells.lookup x=some a/\h.IsCell a (some V)/\Dn ρ as v V:=by
 apply bc;intro ng
 obtain ⟨o,e,e4⟩:=az e
 obtain ⟨c,e,e3⟩:=az e
 obtain ⟨i,e1,e2⟩:=az e
 have e4:o=some v:=e4
 subst e4
 obtain ⟨a,a1,a2⟩:=S.cc x i e1
 obtain ⟨a',b1,b2⟩:=S.at e2
 rw [a1] at b1
 rw [jR e3,<- aF b1] at b2
 obtain ⟨_,⟨V',rfl,d⟩,o,o1,o2⟩:=b2
 apply ng;clear ng
 exact ⟨a,V',a2,⟨o,o1,o2⟩,d⟩
theorem rN {x:Str} {k:AV->St->Tr} {pos:Pos} {Q:Value->Shared->Prop} (y:(zh w.params env.scope x s k).ok ρ post) (S:SR w ρ O G env h s as)
  (q:∀v V,(k v s).ok ρ post->Dn ρ as v V->Q V ⟨h,gs,dr,n,os⟩):wpAny (model pr w) A (eval (.Name x pos) env) Q E ⟨h,gs,dr,n,os⟩:=by
 rcases cG y with ⟨-,y⟩ | ⟨hx,y⟩
 ·exact y.elim
 apply bc;intro ng
 obtain ⟨hx1,hx2⟩:=Bool.or_eq_false_iff.mp hx
 obtain ⟨kd,hl,y⟩:=af y
 apply ng;clear ng
 cases kd <;> try exact y.elim
 ·obtain ⟨v,e,y⟩:=af y
  apply bc;intro ng
  obtain ⟨f,hN,hL⟩:=S.lc
  obtain ⟨V,e',d⟩:=hL x v e
  apply ng;clear ng
  exact wpAny_Name (wpAny_loadName_local (s:=⟨h,gs,dr,n,os⟩) S.ek hl hN e' (q v V y d)) hx1
 ·obtain ⟨v,e,y⟩:=af y
  apply bc;intro ng
  obtain ⟨a,V,a2,hc,d⟩:=pV S e
  apply ng;clear ng
  exact wpAny_Name (wpAny_loadName_cell (s:=⟨h,gs,dr,n,os⟩) S.ek hl a2 hc (q v V y d)) hx1
 ·obtain ⟨g,e,y⟩:=af y
  apply bc;intro ng
  obtain ⟨hb,W,kb⟩:=S.bs
  have kk:∀a o,hb.get? a=some o->h.get? a=some o:=fun a o e=>S.kp _ _ (kb _ _ e)
  obtain ⟨p,l,me,mg,mb,T⟩:=W.t
  apply ng;clear ng
  have T:=topRead_of T
  have hg:h.Ns env.globals mg:=by refine aa S.eg ?_; exact T.g.keeps kk
  induction g with
  | some v=>exact Calls.Name_function_global S.ek hl (Calls.loadGlobal_global (s:=⟨h,gs,dr,n,os⟩) hg (mg_of W.k T.g e) (q _ _ y kW)) hx1
  | none =>
   apply bc;intro ng
   obtain ⟨v,e2,y⟩:=af y
   apply ng;clear ng
   have hbb:h.Ns env.builtins mb:=by refine aa S.eb ?_; exact T.b.keeps kk
   exact Calls.Name_function_global S.ek hl (Calls.loadGlobal_builtin (s:=⟨h,gs,dr,n,os⟩) hg (mg_none_of W.k T.g e) hbb ((T.builtins x (beq_eq_false_iff_ne.mp hx2)).trans (z6 e2 hx2)) (q _ _ y rfl)) hx1
end
section
open PySem PySem.W PyProof.Rows PySem.Calls Builtin Builtin.ObjectAttr
section
variable {w:World} {ρ:Rho} {O:Opq} {G:Gr} {env:Env} {h h':Heap} {s s':St} {as:List Addr} {A:Around} {E:Value->Shared->Prop} {gs:Array GenState} {dr:Drawn} {n:Nat} {os:OsState} {post:Fl->St->Prop}
theorem SR.frame (S:SR w ρ O G env h s as) {ls:List (Str×AV)} (hs:Heap.SameBut env.locals h h') (lc:∃f,h'.Ns env.locals f/\∀x v,ls.lookup x=some v->∃V,f x=some V/\Dn ρ as v V):SR w ρ O G env h' { s with ls:=ls } as:=by
 refine ⟨S.bs,fun a o e=>?_,S.og,S.fL,S.eg,S.eb,S.ek,lc,S.cc,S.sz,fun i o a e e'=>?_,S.nd,S.pc⟩
 ·exact (hs.2 a fun q=>by rw [q,S.fL] at e; exact ap e).trans (S.kp a o e)
 ·obtain ⟨x,y⟩:=S.ob i o a e e'
  exact ⟨x.keep .refl (fun ow x' ex=>(hs.2 a (y ow).1).trans ex),y⟩
theorem SR.obj' (S:SR w ρ O G env h s as) {j:Nat} {o o':AO} {a:Addr} (eo:s.ob[j]? = some o) (ow:o.own=true) (ea:as[j]? = some a) (hs:∀b x,b≠a->h.get? b=some x->h'.get? b=some x) (y:aC ρ O as h' a o') :
  SR w ρ O G env h' { s with ob:=s.ob.set j o' } as:=by
 obtain ⟨hl,hg⟩:=(S.ob j o a eo ea).2 ow
 have hj:j < s.ob.length:=(List.getElem?_eq_some_iff.mp eo).1
 refine ⟨S.bs,fun b x e=>?_,S.og,S.fL,S.eg,S.eb,S.ek,?_,S.cc,by simp [S.sz],fun i x b e e'=>?_,fun i i' x x' b e1 e2 w1 w2 e3 e4=>?_,S.pc⟩
 ·exact hs b x (fun q=>by rw [q,hg] at e; exact ap e) (S.kp b x e)
 ·obtain ⟨f,⟨oL,es,ep,l2,l3⟩,l1⟩:=S.lc
  exact ⟨f,⟨oL,es,ep,hs _ _ hl.symm l2,l3⟩,l1⟩
 ·by_cases hij:j=i
  ·subst hij
   rw [ea] at e'; cases e'
   rw [List.getElem?_set_self hj] at e
   cases e
   exact ⟨y,fun zw=>⟨hl,hg⟩⟩
  ·dsimp only at e
   rw [List.getElem?_set_ne hij] at e
   obtain ⟨x1,z⟩:=S.ob i x b e e'
   refine ⟨x1.keep .refl (fun w x' ex=>hs b x' (fun q=>?_) ex),z⟩
   subst q
   exact hij (S.nd j i o x b eo e ow w ea e')
 ·have f:∀(i:Nat) x,(s.ob.set j o')[i]? = some x->x.own=true->∃x0,s.ob[i]? = some x0/\x0.own=true:=fun i x e w=>by
   by_cases hij:j=i
   ·subst hij; exact ⟨o,eo,ow⟩
   ·rw [List.getElem?_set_ne hij] at e; exact ⟨x,e,w⟩
  obtain ⟨y1,y2,y3⟩:=f i x e1 w1
  obtain ⟨z1,z2,z3⟩:=f i' x' e2 w2
  exact S.nd i i' y1 z1 b y2 z2 y3 z3 e3 e4
theorem SR.obj (S:SR w ρ O G env h s as) {j:Nat} {o o':AO} {a:Addr} (eo:s.ob[j]? = some o) (ow:o.own=true) (ea:as[j]? = some a) (hs:Heap.SameBut a h h') (y:aC ρ O as h' a o'):SR w ρ O G env h' { s with ob:=s.ob.set j o' } as :=
 S.obj' eo ow ea (fun b x n e=>(hs.2 b n).trans e) y
theorem aW {x:Str} {v:AV} {V:Value} {k:St->Tr} {Q:Unit->Shared->Prop} (y:(bZ env.scope x v s k).ok ρ post) (S:SR w ρ O G env h s as) (d:Dn ρ as v V)
  (q:∀s' h' n',(k s').ok ρ post->SR w ρ O G env h' s' as->Q () ⟨h',gs,dr,n',os⟩):wpAny (model pr w) A (storeName env x V) Q E ⟨h,gs,dr,n,os⟩:=by
 apply bc;intro ng
 obtain ⟨kd,hx,y⟩:=af y
 apply ng;clear ng
 cases kd <;> try exact y.elim
 ·obtain ⟨f,hN,hL⟩:=S.lc
  refine wpAny_storeName_local (s:=⟨h,gs,dr,n,os⟩) hx hN (fun h' hn hs=>q _ h' _ y (S.frame hs ⟨_,hn,fun z u e=>?_⟩)) (by refine aa S.ek ?_; rfl)
  have e:(match z == x with | true=>some v | false=>s.ls.lookup z)=some u:=e
  by_cases hz:z=x
  ·subst hz; rw [beq_self_eq_true] at e; exact ⟨V,if_pos rfl,aF e▸d⟩
  ·rw [beq_eq_false_iff_ne.mpr hz] at e; refine aa (if_neg hz) ?_; exact hL z u e
 ·obtain ⟨i,e,y⟩:=af y
  apply bc;intro ng
  obtain ⟨v0,e2,y⟩:=af y
  obtain ⟨o,e2,e3⟩:=az e2
  rw [jR e3] at e2
  obtain ⟨a,a1,a2⟩:=S.cc x i e
  obtain ⟨a',b1,b2,b3⟩:=S.get e2
  rw [a1] at b1
  rw [<- aF b1] at b2
  obtain ⟨V0,_,o,o1,o2⟩:=b2
  apply ng;clear ng
  refine wpAny_storeName_cell (s:=⟨h,gs,dr,n,os⟩) S.ek hx a2 ⟨o,o1,o2⟩ fun h' hv hs=>q _ h' _ y (S.obj e2 rfl a1 hs ?_)
  apply bc;intro ng
  obtain ⟨o',z1,z2⟩:=hv
  apply ng;clear ng
  exact ⟨some V,⟨V,rfl,d⟩,o',z1,z2⟩
theorem gN {o:Obj} {Fs:List (Str×Value)} (N:jL o Fs) (name:Str):lookIn name o=some (Fs.lookup name):=by
 apply bc;intro ng
 obtain ⟨es,ep,hd,hk,hf,_⟩:=N
 apply ng;clear ng
 unfold lookIn
 refine aa hd ?_
 dsimp only
 have q:=hf name
 unfold nsFind findBy at q
 rw [<- Array.find?_toList] at q
 induction e:es.toList.find? (·.key.isStr name) with
 | some en=>rw [e] at q; simp at q; exact aa (Eq.symm q) rfl
 | none =>
  rw [e] at q
  simp at q
  refine aa (Eq.symm q) ?_
  dsimp only
  rw [if_neg]
  intro z
  apply bc;intro ng
  obtain ⟨en,m,r⟩:=List.any_eq_true.mp z
  obtain ⟨nn,t,hkk⟩:=hk en (Array.mem_toList_iff.mp m)
  apply ng;clear ng
  simp [DictEntry.refKey,hkk] at r
theorem ki (S:SR w ρ O G env h s as) {i:Nat} {x:Addr} {q:Addr×Nat×List (Str×AV)} (ex:as[i]? = some x) (e:v9 s i=some q) :
  ∃dx Fs o,as[q.2.1]? = some dx/\s.at q.2.1=some (.ns q.2.2)/\h.get? dx=some o/\jL o Fs/\All2 (Nm ρ as) q.2.2 Fs/\InstAt h x (instObj q.1 dx) q.1 (some o):=by
 apply bc;intro ng
 obtain ⟨p,e1,e⟩:=az e
 obtain ⟨fs,e2,e⟩:=gU e
 subst e
 obtain ⟨dx,a2,o1,a3,a4⟩:=S.vw (c:=fun p:Addr×Nat=>.inst p.1 p.2) oD e1 ex
 obtain ⟨Fs,b2,o,b3,b4⟩:=S.vw (c:=.ns) nY e2 a2
 obtain ⟨o2,e2,e3⟩:=az e2
 rw [nY e3] at e2
 have a4:o1=instObj p.1 dx:=a4
 subst a4
 apply ng;clear ng
 exact ⟨dx,Fs,o,a2,e2,b3,b4,b2,⟨a3,rfl,rfl,b3⟩⟩
structure Plain (P:Params) (C:Addr):Prop where
 ga:findIn (K P) (.ref C) (Str.ofString "__getattribute__")=some (some (.builtin "object.__getattribute__"))
 gt:findIn (K P) (.ref C) (Str.ofString "__getattr__")=some none
 sa:findIn (K P) (.ref C) (Str.ofString "__setattr__")=some (some (.builtin "object.__setattr__"))
 ov:plainOver (K P) C=true
 hd:∃cd,clsIn (K P) C=some cd/\cd.hasDict=true
theorem iE {P:Params} {C:Addr} (e:eE P C=true):Plain P C:=by
 unfold eE at e
 simp only [Bool.and_eq_true,beq_iff_eq] at e
 obtain ⟨⟨⟨⟨a,b⟩,c⟩,d⟩,e⟩:=e
 exact ⟨a,b,c,d,any_some e⟩
theorem lR {P:Params} {C:Addr} {o:Obj} {Fs:List (Str×Value)} {name:Str} {V:Value} (p:Plain P C) (hf:findIn (K P) (.ref C) name=some none) (N:jL o Fs) (e:Fs.lookup name=some V) :
  findObj (K P) C (some o) name=some (.value V):=by
 apply bc;intro ng
 obtain ⟨cd,hc,hd⟩:=p.hd
 apply ng;clear ng
 unfold findObj
 simp only [hc,hf,Option.bind_some,PySem.W.ownOf,hd,gN N,e,if_true]
theorem lU {P:Params} {C:Addr} {o:Obj} {Fs:List (Str×Value)} {name:Str} {i:Int} {t:Tok} (p:Plain P C) (hf:findIn (K P) (.ref C) name=some (some (.int i t))) (hg:specialIn (K P) (.int i t) (Str.ofString "__get__")=some none)
  (hn:copiedNames.contains name=false) (N:jL o Fs) (e:Fs.lookup name=none):findObj (K P) C (some o) name=some (.value (.int i t)):=by
 apply bc;intro ng
 obtain ⟨cd,hc,hd⟩:=p.hd
 apply ng;clear ng
 have hg':specialIn (K P) (.int i t) "__get__" = some none:=hg
 unfold findObj
 simp only [hc,hf,Option.bind_some,hg',PySem.W.ownOf,hd,gN N,e,if_true,hn,Bool.false_and,Bool.false_eq_true,if_false,handedIn]
theorem qK {v:AV} {V:Value} (d:Dn ρ as v V) (e:v.told=true):handedIn V=true:=by
 induction v using AV.casesOn <;> try exact bH e
 ·have d:V=_:=d
  subst d; rfl
 ·have d:V=_:=d
  subst d; rfl
 ·obtain ⟨_,rfl⟩:=d; rfl
 ·obtain ⟨_,rfl⟩:=d; rfl
 ·obtain ⟨_,_,rfl⟩:=d; rfl
theorem FH {v:Value} {p:Int×Tok} (h:yO v=some p):v = .int p.1 p.2:=by induction v using Value.casesOn <;> first | exact congrArg (fun p:Int×Tok=>Value.int p.1 p.2) (aF h) | exact ap h
theorem i7 {a:AV} {V:Value} {name:Str} {k:AV->St->Tr} {ex:Bool} {Q:Value->Shared->Prop} (y:(pd w.params a name s k).ok ρ post) (S:SR w ρ O G env h s as) (d:Dn ρ as a V)
  (q:∀v V n',(k v s).ok ρ post->Dn ρ as v V->Q V ⟨h,gs,dr,n',os⟩):wpAny (model pr w) A (getAttr V name ex) Q E ⟨h,gs,dr,n,os⟩:=by
 apply bc;intro ng
 obtain ⟨i,ei,y⟩:=af y
 rw [bN ei] at d
 obtain ⟨x,ex,rfl⟩:=d
 obtain ⟨r,er,y⟩:=af y
 obtain ⟨dx,Fs,o,a2,-,a4,N,B,I⟩:=ki S ex er
 obtain ⟨hp,y⟩:=aj y
 have p:=iE hp
 have z:=bn B (n:=name)
 obtain ⟨f,hf,y⟩:=af y
 apply ng;clear ng
 induction f with
 | none =>
  apply bc;intro ng
  obtain ⟨v,hl,y⟩:=af y
  obtain ⟨ht,y⟩:=aj y
  rw [hl] at z
  obtain ⟨V,z1,z2⟩:=z
  apply ng;clear ng
  exact get_value (s:=⟨h,gs,dr,n,os⟩) S.k I p.ga (lR p hf N z1) (qK z2 ht) (q _ _ _ y z2)
 | some u =>
  apply bc;intro ng
  obtain ⟨m,hm,y⟩:=af y
  obtain ⟨hc,y⟩:=aj y
  apply ng;clear ng
  rw [FH hm] at hf
  rw [Option.isNone_iff_eq_none.mp (ag (ag hc))] at z
  exact get_value (s:=⟨h,gs,dr,n,os⟩) S.k I p.ga (lU p hf (aD (au (ag hc))) (iO (au hc)) N z) rfl (q _ _ _ y ⟨_,rfl⟩)
theorem iQ {β:Type} {name:Str} {v:β}:∀{fs:List (Str×β)} (x:Str),(rj fs name v).lookup x=if x=name then some v else fs.lookup x:=by
 intro fs x
 unfold rj
 split
 ·rename_i h
  have key:∀l:List (Str×β),(l.map fun p=>if p.1 == name then (p.1,v) else p).lookup x=if x=name then (if (l.lookup name).isSome=true then some v else none) else l.lookup x:=by
   intro l
   induction l with
   | nil=>simp
   | cons p r ih =>
    obtain ⟨n,u⟩:=p
    simp only [List.map_cons,List.lookup]
    by_cases hn:n=name
    ·subst hn
     simp only [beq_self_eq_true,if_true]
     by_cases hx:x=n
     ·subst hx; simp
     ·have:(x == n)=false:=beq_eq_false_iff_ne.mpr hx
      simp only [this,if_neg hx] at ih ⊢; exact ih
    ·have h1:(n == name)=false:=beq_eq_false_iff_ne.mpr hn
     have h2:(name == n)=false:=beq_eq_false_iff_ne.mpr fun e=>hn e.symm
     simp only [h1,h2,Bool.false_eq_true,if_false]
     by_cases hx:x=n
     ·subst hx; simp [hn]
     ·have:(x == n)=false:=beq_eq_false_iff_ne.mpr hx
      simp only [this]; exact ih
  rw [key,h]; simp
 ·simp only [List.lookup]
  by_cases hx:x=name
  ·subst hx; simp
  ·have:(x == name)=false:=beq_eq_false_iff_ne.mpr hx
   simp [this,hx]
theorem xQ {β:Type} {Fs:List (Str×β)} {name:Str} {v:β}:(rj Fs name v).length<=Fs.length + 1:=by unfold rj; split <;> simp
theorem All2.map' {α β:Type} {R:α->β->Prop} {f:α->α} {g:β->β} (k:∀a b,R a b->R (f a) (g b)) {l:List α} {m:List β} (x:All2 R l m):All2 R (l.map f) (m.map g):=by
 induction x with | nil=>exact .nil | cons h _ ih=>exact .cons (k _ _ h) ih
theorem xr {fs:List (Str×AV)} {Fs:List (Str×Value)} (B:All2 (Nm ρ as) fs Fs) {name:Str} {v:AV} {V:Value} (d:Dn ρ as v V):All2 (Nm ρ as) (rj fs name v) (rj Fs name V):=by
 have e:(fs.lookup name).isSome=(Fs.lookup name).isSome:=by
  have z:=bn B (n:=name)
  induction q:fs.lookup name with
  | none=>rw [q] at z; refine aa z ?_; rfl
  | some u=>rw [q] at z; obtain ⟨V,z,-⟩:=z; refine aa z ?_; rfl
 unfold rj
 refine aa e ?_
 split
 ·refine B.map' fun a b h=>?_
  refine aa h.1 ?_
  split
  ·exact ⟨rfl,d⟩
  ·exact h
 ·exact .cons ⟨rfl,d⟩ B
theorem mF {o:Obj} {Fs:List (Str×Value)} {name:Str} {hash:Int} {tk:Tok} {v:Value} (N:jL o Fs):jL (Obj.putName name hash (.str name tk) v o) (rj Fs name v):=by
 apply bc;intro ng
 obtain ⟨es,ep,hd,hk,hm,hz⟩:=N
 obtain ⟨c,d,dt,sl⟩:=o
 apply ng;clear ng
 dsimp only at hd
 subst hd
 have hl:((Fs.lookup name).isSome=true)↔(es.findIdx? (·.key.isStr name)).isSome=true:=by
  refine aa (Eq.symm (hm name)) ?_; unfold nsFind findBy
  refine aa Option.isSome_map ?_
  simp only [Array.find?_isSome,Array.findIdx?_isSome,Array.any_eq_true']
 induction hi:es.findIdx? (·.key.isStr name) with
 | some i =>
  have hs:(Fs.lookup name).isSome=true:=hl.mpr (by refine aa hi ?_; rfl)
  refine ⟨es.modify i fun e=>{ e with val:=v },ep,by simp only [Obj.putName_eq,Obj.putNameByArray,hi],hk.modify _ _,fun x=>?_,?_⟩
  ·rw [iQ,<- hm]; exact findBy_modify (fun n v=>v.isStr n) Value.isStr_inj es name x v i hi
  ·unfold rj; refine aa (if_pos hs) ?_; simpa using hz
 | none =>
  have hs:¬(Fs.lookup name).isSome=true:=fun z=>by have:=hl.mp z; rw [hi] at this; exact bH this
  refine ⟨es.push ⟨hash,.str name tk,v⟩,ep + 1,by simp only [Obj.putName_eq,Obj.putNameByArray,hi],hk.push _ _ _ _,fun x=>?_,?_⟩
  ·rw [iQ,<- hm]
   exact findBy_push (fun n v=>v.isStr n) es name x _ _ v (fun y=>by
    show (name == y)=decide (y=name)
    by_cases h:y=name
    ·subst h; simp
    ·have:¬name=y:=fun e=>h e.symm
     simp [h,this]) hi
  ·unfold rj; refine aa (if_neg hs) ?_; simp; omega
theorem nB {x dx C:Addr} {o:Obj} {Fs:List (Str×Value)} {name:Str} {v:Value} {Q:Unit->Shared->Prop} (X:(K w.params).In h) (I:InstAt h x (instObj C dx) C (some o)) (p:Plain w.params C) (ht:takerIn (K w.params) C name=some none)
  (N:jL o Fs) (hz:Fs.length < 900) (q:∀h' o' n',Heap.SameBut dx h h'->h'.get? dx=some o'->jL o' (rj Fs name v)->Q () ⟨h',gs,dr,n',os⟩):wpAny (model pr w) A (setAttr (.ref x) name v) Q E ⟨h,gs,dr,n,os⟩:=by
 refine set_plain (s:=⟨h,gs,dr,n,os⟩) X I p.sa ?_
 refine osa_open (s:=⟨h,gs,dr,n + 1,os⟩) X I p.ov ht fun b=>?_
 apply bc;intro ng
 obtain ⟨cd,hc,hd⟩:=p.hd
 have hx:h.get? x=some (instObj C dx):=I.at_
 have D:h.get? dx=some o:=I.dict
 have N':=mF (name:=name) (hash:=PyData.keyHash w.params name) (tk:=n + 1) (v:=v) N
 obtain ⟨es,ep,e1,e2,e3,e4⟩:=id N
 obtain ⟨es',ep',f1,f2,f3,f4⟩:=id N'
 apply ng;clear ng
 have U:(h.update dx (Obj.putName name (PyData.keyHash w.params name) (.str name (n + 1)) v)).get? dx=some (Obj.putName name (PyData.keyHash w.params name) (.str name (n + 1)) v o):=Heap.get?_update_self _ D (Obj.isFreed_of_dict f1)
 refine wpAny_bind (wpAny_pure (wpAny_bind (wpAny_bind (wpAny_loadPart hx (wpAny_bind ((looks_clsIn X hc).here ?_))))))
 refine aa hd ?_
 refine wpAny_pure (a:=some dx) (wpAny_bind (wpAny_pure (wpAny_bind ?_)))
 unfold nsSet
 refine wpAny_bind (wpAny_bind (wpAny_askSetting (wpAny_pure (wpAny_bind (wpAny_mkText (wpAny_bind (wpAny_loadPart D ?_)))))))
 have hany:es.any (·.refKey)=false:=by
  rw [Array.any_eq_false']; intro e he; obtain ⟨n,t,h⟩:=e2 e he; simp [DictEntry.refKey,h]
 refine aa e1 ?_
 dsimp only
 rw [aRefKeyMayBeTheName_at,hany,Bool.and_false]
 refine wpAny_updatePart D ?_
 refine wpAny_bind (wpAny_lookBehind U (by refine aa f1 ?_; exact pastItsLine_dict (by have:=xQ (Fs:=Fs) (name:=name) (v:=v); refine aa sizeLine_eq ?_; (first | decide | lia | omega))) ?_)
 exact wpAny_pure (q _ _ _ (Heap.SameBut.update ..) U N')
theorem eH {a v:AV} {V U:Value} {name:Str} {k:St->Tr} {Q:Unit->Shared->Prop} (y:(f7 w.params a name v s k).ok ρ post) (S:SR w ρ O G env h s as) (d:Dn ρ as a V) (d':Dn ρ as v U)
  (q:∀s' h' n',(k s').ok ρ post->SR w ρ O G env h' s' as->Q () ⟨h',gs,dr,n',os⟩):wpAny (model pr w) A (setAttr V name U) Q E ⟨h,gs,dr,n,os⟩:=by
 apply bc;intro ng
 obtain ⟨i,ei,y⟩:=af y
 rw [bN ei] at d
 obtain ⟨x,ex,rfl⟩:=d
 obtain ⟨r,er,y⟩:=af y
 obtain ⟨fs,ej,y⟩:=af y
 obtain ⟨hp,y⟩:=aj y
 obtain ⟨dx,Fs,o,a2,a3,a4,N,B,I⟩:=ki S ex er
 obtain ⟨o',ej,eo⟩:=az ej
 apply ng;clear ng
 rw [nY eo] at ej
 have a3:(s.ob[r.2.1]?).map AO.view=some (.ns r.2.2):=a3
 rw [ej] at a3
 have a3:AO.ns fs = .ns r.2.2:=aF a3
 have a3:fs=r.2.2:=AO.ns.inj a3
 rw [<- a3] at B
 refine nB S.k I (iE (ag (ag hp))) (aD (au (ag hp))) N (by have:=of_decide_eq_true (au hp); rw [B.len] at this; (first | lia | omega)) fun h' o' n' hs ho' N'=>?_
 exact q _ _ _ y (S.obj ej rfl a2 hs ⟨_,xr B d',o',ho',N'⟩)
theorem wJ {k:Int} {len j:Nat} (e:seqIndex? k len=some j) (hk:k < 0) : -(len:Int)<=k/\(k + len).toNat=j:=by
 unfold seqIndex? at e
 rw [if_pos hk] at e
 dsimp only at e
 split at e
 ·rename_i q; cases e; simp only [Bool.and_eq_true,decide_eq_true_eq] at q; (first | lia | omega)
 ·exact ap e
theorem yo {k:Int} {len j:Nat} (e:seqIndex? k len=some j) (hk:¬k < 0):k.toNat=j:=by
 unfold seqIndex? at e
 rw [if_neg hk] at e
 dsimp only at e
 split at e
 ·cases e; rfl
 ·exact ap e
theorem All2.take {α β:Type} {R:α->β->Prop} {l:List α} {m:List β} (x:All2 R l m):∀n,All2 R (l.take n) (m.take n):=by
 induction x with
 | nil=>intro n; simp; exact .nil
 | cons h t ih=>intro n; induction n using Nat.casesOn with | zero=>exact .nil | succ n=>simpa using All2.cons h (ih n)
theorem All2.set {α β:Type} {R:α->β->Prop} {l:List α} {m:List β} (x:All2 R l m):∀{i:Nat} {a:α} {b:β},R a b->All2 R (l.set i a) (m.set i b):=by
 induction x with
 | nil=>intro i a b _; simp; exact .nil
 | cons h t ih=>intro i a b r; induction i using Nat.casesOn with | zero=>exact .cons r t | succ i=>exact .cons h (ih r)
theorem is {P:Prop} {e:IE} {k:Nat->St->Tr}:∀{m:Nat} {s:St},SR w ρ O G env h s as->(qS e k m s).ok ρ post->
  (∀i s',s'.ob=s.ob/\i < m->e.den ρ=(i:Int)->(k i s').ok ρ post->SR w ρ O G env h s' as->P)->P
 | 0,_,_,y,_=>y.elim
 | m + 1,s,S,y,q=>by
  unfold qS at y
  refine oZ S y fun b s' eb hob y S'=>?_
  induction b with
  | true=>exact q m s' ⟨hob,Nat.lt_succ_self m⟩ (eb.mpr rfl) y S'
  | false=>exact is S' y fun i s'' hi=>q i s'' ⟨hi.1.trans hob,Nat.lt_succ_of_lt hi.2⟩
theorem dN {slice:Expr} (hs:cv slice=false) (o i:Value):subscripted slice false o i=operate [o,i] (getItem o i):=by
 cases slice <;> first | rfl | cases hs
theorem pO {x:Addr} {Vs:List Value} {m:Nat} {v:AV} {vs:List AV} {z:Int} {t:Tok} {Q:Value->Shared->Prop} (l:h.IsList x Vs.toArray) (a2:All2 (Dn ρ as) vs Vs) (em:seqIndex? z vs.length=some m) (ev:vs[m]? = some v) (hz:z.natAbs < 2 ^ 60)
  (q:∀V,Dn ρ as v V->Q V ⟨h,gs,dr,n,os⟩):wpAny (model pr w) A (getItem (.ref x) (.int z t)) Q E ⟨h,gs,dr,n,os⟩:=by
 apply bc;intro ng
 obtain ⟨X,x1,x2⟩:=a2.get ev
 apply ng;clear ng
 by_cases hk:z < 0
 ·obtain ⟨z1,z2⟩:=wJ em hk
  rw [a2.len] at z1 z2
  exact wpAny_getItem_list_neg (s:=⟨h,gs,dr,n,os⟩) l hk (by simpa using z1) (by (first | lia | omega)) (x:=X) (by simp only [List.size_toArray]; refine aa z2 ?_; simpa using x1) (q _ x2)
 ·exact wpAny_getItem_list (s:=⟨h,gs,dr,n,os⟩) l (by (first | lia | omega)) (by (first | lia | omega)) (x:=X) (by refine aa (yo em hk) ?_; simpa using x1) (q _ x2)
theorem oP {V U:Value} {i:AV} {a:AV} {k:AV->St->Tr} {Q:Value->Shared->Prop} (y:(kS a i s k).ok ρ post) (S:SR w ρ O G env h s as) (d:Dn ρ as a V) (d':Dn ρ as i U)
  (q:∀v V s' n',(k v s').ok ρ post->SR w ρ O G env h s' as->Dn ρ as v V->Q V ⟨h,gs,dr,n',os⟩):wpAny (model pr w) A (getItem V U) Q E ⟨h,gs,dr,n,os⟩/\∃T id,Shared.TypeIs ⟨h,gs,dr,n,os⟩ V T/\typeLookup (.type T) (Str.ofString "__getitem__")=pure (some (.builtin id)):=by
 apply bc;intro ng
 obtain ⟨j,ej,y⟩:=af y
 obtain ⟨ie,ei,y⟩:=af y
 rw [bN ej] at d; rw [cP ei] at d'
 obtain ⟨x,ex,rfl⟩:=d
 obtain ⟨t,rfl⟩:=d'
 apply ng;clear ng
 apply bc;intro ng
 rcases cE y with ⟨z,ez,y⟩ | ⟨-,y⟩ <;> refine ng ?_ <;> clear ng
 ·refine aa (bP ez) ?_
  apply bc;intro ng
  obtain ⟨hn,y⟩:=aj y
  apply ng;clear ng
  have hn:=of_decide_eq_true hn
  apply bc;intro ng
  rcases cE y with ⟨vs,e,y⟩ | ⟨-,y⟩ <;> refine ng ?_ <;> clear ng
  ·obtain ⟨Vs,a2,a3⟩:=S.vw (c:=.lst) cB e ex
   apply bc;intro ng
   obtain ⟨m,em,y⟩:=af y
   obtain ⟨v,ev,y⟩:=af y
   apply ng;clear ng
   have l:h.IsList x Vs.toArray:=a3
   exact ⟨pO l a2 em ev hn fun V d=>q _ _ _ _ y S d,_,_,l.typeIs (s:=⟨h,gs,dr,n,os⟩),slot_list_getitem.lookup⟩
  ·obtain ⟨vs,e,y⟩:=af y
   apply bc;intro ng
   obtain ⟨Vs,a2,a3⟩:=S.vw (c:=.tup) cY e ex
   obtain ⟨m,em,y⟩:=af y
   obtain ⟨v,ev,y⟩:=af y
   obtain ⟨X,x1,x2⟩:=a2.get ev
   apply ng;clear ng
   have l:IsTup h x Vs.toArray:=a3
   refine ⟨?_,_,_,l.typeIs (s:=⟨h,gs,dr,n,os⟩),slot_tuple_getitem.lookup⟩
   show wpAny (model pr w) A (getItem (.ref x) (.int z t)) Q E _
   exact getItem_tuple (s:=⟨h,gs,dr,n,os⟩) l (by omega) (by omega) (by simp only [List.size_toArray]; refine aa (Eq.symm a2.len) ?_; exact em) (x:=X) (by simpa using x1) (q _ _ _ _ y S x2)
 ·obtain ⟨vs,e,y⟩:=af y
  apply bc;intro ng
  obtain ⟨Vs,a2,a3⟩:=S.vw (c:=.lst) cB e ex
  apply ng;clear ng
  have l:h.IsList x Vs.toArray:=a3
  refine ⟨?_,_,_,l.typeIs (s:=⟨h,gs,dr,n,os⟩),slot_list_getitem.lookup⟩
  apply bc;intro ng
  obtain ⟨hn,y⟩:=aj y
  apply ng;clear ng
  have hn:=of_decide_eq_true hn
  refine is S y fun m s' hm ei y S'=>?_
  apply bc;intro ng
  obtain ⟨v,ev,y⟩:=af y
  obtain ⟨X,x1,x2⟩:=a2.get ev
  apply ng;clear ng
  refine aa ei ?_
  have hm:=hm.2
  exact wpAny_getItem_list (s:=⟨h,gs,dr,n,os⟩) l (by omega) (by omega) (x:=X) (by simpa using x1) (q _ _ _ _ y S' x2)
theorem mn {value slice:Expr} {a i:AV} {V U:Value} {k:AV->St->Tr} {Q:Value->Shared->Prop} (hs:cv slice=false) (y:(kS a i s k).ok ρ post) (S:SR w ρ O G env h s as) (d:Dn ρ as a V) (d':Dn ρ as i U)
  (q:∀v V s' n',(k v s').ok ρ post->SR w ρ O G env h s' as->Dn ρ as v V->Q V ⟨h,gs,dr,n',os⟩):wpAny (model pr w) A (subscriptTail value slice V U) Q E ⟨h,gs,dr,n,os⟩:=by
 apply bc;intro ng
 obtain ⟨z,T,id,ht,hl⟩:=oP (A:=A) (E:=E) (n:=n) y S d d' q
 apply ng;clear ng
 exact tail_any (s:=⟨h,gs,dr,n,os⟩) ht hl z (dN hs _ _)
theorem zU {o:AO} {vs:List AV} (h:o.mut? = some vs):o = .lst vs\/o = .pl vs:=by induction o using AO.casesOn <;> first | exact .inl (congrArg AO.lst (aF h)) | exact .inr (congrArg AO.pl (aF h)) | exact ap h
theorem d7 {a i v:AV} {V U X:Value} {k:St->Tr} {Q:Unit->Shared->Prop} (y:(gB a i v s k).ok ρ post) (S:SR w ρ O G env h s as) (d:Dn ρ as a V) (d':Dn ρ as i U) (d'':Dn ρ as v X)
  (q:∀s' h' n',(k s').ok ρ post->SR w ρ O G env h' s' as->Q () ⟨h',gs,dr,n',os⟩):wpAny (model pr w) A (setItem V U X) Q E ⟨h,gs,dr,n,os⟩:=by
 apply bc;intro ng
 obtain ⟨j,ej,y⟩:=af y
 obtain ⟨ie,ei,y⟩:=af y
 rw [bN ej] at d; rw [cP ei] at d'
 obtain ⟨x,ex,rfl⟩:=d
 obtain ⟨t,rfl⟩:=d'
 obtain ⟨vs,e,y⟩:=af y
 obtain ⟨hn,y⟩:=aj y
 have hn:=of_decide_eq_true hn
 obtain ⟨o,e,e2⟩:=az e
 obtain ⟨ow,Vs,a2,l⟩:o.own=true/\∃Vs,All2 (Dn ρ as) vs Vs/\h.IsList x Vs.toArray:=by
  obtain ⟨x',a1,a2,-⟩:=S.get e
  rw [ex] at a1
  rw [<- aF a1] at a2
  rcases zU e2 with z | z
  ·rw [z] at a2 ⊢; exact ⟨rfl,a2⟩
  ·rw [z] at a2 ⊢; exact ⟨rfl,aO.pl a2⟩
 apply ng;clear ng
 refine is S y fun m s' hm ei y S'=>?_
 apply bc;intro ng
 obtain ⟨e2,hlt⟩:=hm
 apply ng;clear ng
 refine aa ei ?_
 refine wpAny_setItem_list (s:=⟨h,gs,dr,n,os⟩) l (by (first | lia | omega)) (by (first | lia | omega)) (by have:=a2.len; simp; (first | lia | omega)) fun h' hl hs=>?_
 have hl':h'.IsList x (Vs.set m X).toArray:=by
  have z:(Vs.toArray.setIfInBounds (m:Int).toNat X)=(Vs.set m X).toArray:=by simp
  rw [z] at hl; exact hl
 exact q _ _ _ y (S'.obj (o':=.lst (vs.set m v)) (by refine aa e2 ?_; exact e) ow ex hs ⟨Vs.set m X,a2.set d'',hl'⟩)
theorem kZ {op:Operator} {a b:AV} {k:AV->St->Tr} {V U:Value} {Q:Value->Shared->Prop} (y:(tB op a b s k).ok ρ post) (d:Dn ρ as a V) (d':Dn ρ as b U)
  (q:∀v V n',(k v s).ok ρ post->Dn ρ as v V->Q V ⟨h,gs,dr,n',os⟩):wpAny (model pr w) A (inplaceOp op V U) Q E ⟨h,gs,dr,n,os⟩:=by
 induction op using Operator.casesOn <;> try exact y.elim
 obtain ⟨p,e,y⟩:=af y
 obtain ⟨t,u,rfl,rfl⟩:=bF e d d'
 exact BQ fun t n'=>q _ _ n' y ⟨t,by exact aa lJ rfl⟩
theorem aO.lt {a:Addr} {o:AO} (x:aO ρ as h.get? a o):a < h.objs.size:=by
 induction o using AO.casesOn with
 | lst vs=>obtain ⟨_,_,y⟩:=x; exact y.lt
 | tup vs=>obtain ⟨_,_,y⟩:=x; exact y.lt
 | ns vs=>obtain ⟨_,_,y⟩:=x; exact y.lt
 | inst C j=>obtain ⟨_,_,y⟩:=x; exact y.lt
 | cell v=>obtain ⟨_,_,y⟩:=x; exact y.lt
 | il b es=>obtain ⟨_,_,y⟩:=x; exact y.lt
 | raw t=>exact At.lt x
 | pl vs=>obtain ⟨_,_,y⟩:=x; exact y.lt
 | rf b=>exact At.lt x
 | dc ps=>obtain ⟨_,_,_,_,y,_⟩:=x; exact Heap.lt_size y
 | _=>exact x.elim
theorem aC.lt {a:Addr} {o:AO} (x:aC ρ O as h a o) (ow:o.own=true):a < h.objs.size:=by
 induction o using AO.casesOn with
 | opq k=>exact bH ow
 | dead=>exact bH ow
 | fz o=>exact bH ow
 | lit j i=>obtain ⟨_,_,_,y,_⟩:=x; exact Heap.lt_size y
 | tit j i=>obtain ⟨_,_,_,y,_⟩:=x; exact Heap.lt_size y
 | lst vs=>exact aO.lt (o:=.lst vs) x
 | tup vs=>exact aO.lt (o:=.tup vs) x
 | ns vs=>exact aO.lt (o:=.ns vs) x
 | inst C j=>exact aO.lt (ρ:=ρ) (o:=.inst C j) x
 | cell v=>exact aO.lt (o:=.cell v) x
 | il b es=>exact aO.lt (as:=as) (o:=.il b es) x
 | raw t=>exact aO.lt (ρ:=ρ) (as:=as) (o:=.raw t) x
 | pl vs=>exact aO.lt (o:=.pl vs) x
 | rf b=>exact aO.lt (ρ:=ρ) (as:=as) (o:=.rf b) x
 | dc ps=>exact aO.lt (o:=.dc ps) x
noncomputable def iJ (G:Gr) (h:Heap) (L:Addr):Gr:=fun b=>if b=L then h.get? L else G b
theorem iJ.sub {G:Gr} {h:Heap} {L:Addr} (f:G L=none):∀a o,G a=some o->iJ G h L a=some o:=fun a o e=>by
 unfold iJ; split
 ·rename_i q; rw [q,f] at e; exact ap e
 ·exact e
theorem SR.co {w:World} {ρ:Rho} {O:Opq} {G:Gr} {env:Env} {h:Heap} {s:St} {as:List Addr} (S:SR w ρ O G env h s as):Co w ρ O (iJ G h env.locals) h s.ob s.pc as:=by
 have sub:=iJ.sub (h:=h) S.fL
 refine ⟨?_,fun a o e=>?_,fun a o e=>sub a o (S.og a o e),S.sz,fun i o a e e'=>?_,S.nd,S.pc⟩
 ·obtain ⟨hb,W,kb⟩:=S.bs
  exact ⟨hb,W,fun a o e=>sub a o (kb a o e)⟩
 ·unfold iJ at e; split at e
  ·rename_i q; refine aa q ?_; exact e
  ·exact S.kp a o e
 ·obtain ⟨x,y⟩:=S.ob i o a e e'
  refine ⟨x,fun ow=>?_⟩
  unfold iJ; refine aa (if_neg (y ow).1) ?_; exact (y ow).2
theorem SR.back {w:World} {ρ:Rho} {O:Opq} {G:Gr} {env:Env} {h h':Heap} {s s':St} {as as':List Addr} (S:SR w ρ O G env h s as) (C:Co w ρ O (iJ G h env.locals) h' s'.ob s'.pc as')
  (p:aM as as') (e1:s'.ls=s.ls) (e2:s'.cl=s.cl):SR w ρ O G env h' s' as':=by
 apply bc;intro ng
 obtain ⟨f,⟨oL,es,ep,l2,l3⟩,l1⟩:=S.lc
 apply ng;clear ng
 have sub:=iJ.sub (h:=h) S.fL
 have gL:iJ G h env.locals env.locals=some oL:=by unfold iJ; rw [if_pos rfl]; exact l2
 refine ⟨S.bs,fun a o e=>C.kp a o (sub a o e),S.og,S.fL,S.eg,S.eb,S.ek,⟨f,⟨oL,es,ep,C.kp _ _ gL,l3⟩,fun x v e=>?_⟩,fun x i e=>?_,C.sz,fun i o a e e'=>?_,C.nd,C.pc⟩
 ·rw [e1] at e
  apply bc;intro ng
  obtain ⟨V,z1,z2⟩:=l1 x v e
  apply ng;clear ng
  exact ⟨V,z1,z2.pre p⟩
 ·rw [e2] at e
  apply bc;intro ng
  obtain ⟨a,z1,z2⟩:=S.cc x i e
  apply ng;clear ng
  exact ⟨a,p.get z1,z2⟩
 ·obtain ⟨x,y⟩:=C.ob i o a e e'
  refine ⟨x,fun ow=>?_⟩
  have z:=y ow
  unfold iJ at z
  split at z
  ·rw [l2] at z; cases z
  ·rename_i q; exact ⟨q,z⟩
theorem Co.push {h:Heap} {ob:List AO} {pc:List (CE×Bool)} {as:List Addr} (S:Co w ρ O G h ob pc as) (o:Obj) {ao:AO} (y:aC ρ O (as++[h.objs.size]) (h.push o) h.objs.size ao):Co w ρ O G (h.push o) (ob++[ao]) pc (as++[h.objs.size]):=by
 have kk:∀a x,h.get? a=some x->(h.push o).get? a=some x:=fun zw zw e=>Heap.get?_push_of_some _ e
 have gn:G h.objs.size=none:=by
  induction q:G h.objs.size with
  | none=>rfl
  | some x=>exact absurd (Heap.lt_size (S.kp _ _ q)) (Nat.lt_irrefl _)
 have cs:∀(i:Nat) x a,(ob++[ao])[i]? = some x->(as++[h.objs.size])[i]? = some a->(ob[i]? = some x/\as[i]? = some a)\/(i=ob.length/\x=ao/\a=h.objs.size):=fun i x a e e'=>by
  by_cases hi:i < ob.length
  ·rw [List.getElem?_append_left hi] at e
   rw [List.getElem?_append_left (by refine aa S.sz ?_; exact hi)] at e'
   exact .inl ⟨e,e'⟩
  ·rw [List.getElem?_append_right (by (first | lia | omega))] at e
   rw [List.getElem?_append_right (by refine aa S.sz ?_; (first | lia | omega))] at e'
   have h0:i - ob.length=0:=by
    have:=(List.getElem?_eq_some_iff.mp e).1; simp at this; (first | lia | omega)
   have h1:i - as.length=0:=by refine aa S.sz ?_; exact h0
   rw [h0] at e; rw [h1] at e'
   simp at e e'
   exact .inr ⟨by (first | lia | omega),e.symm,e'.symm⟩
 refine ⟨S.bs,fun a x e=>kk _ _ (S.kp a x e),S.og,by simp [S.sz],fun i x a e e'=>?_,fun i j x x' a e1 e2 w1 w2 e3 e4=>?_,S.pc⟩
 ·rcases cs i x a e e' with ⟨f1,f2⟩ | ⟨f1,rfl,rfl⟩
  ·obtain ⟨z1,z2⟩:=S.ob i x a f1 f2
   exact ⟨z1.keep ⟨_,rfl⟩ (fun zw x e=>kk _ _ e),z2⟩
  ·exact ⟨y,fun zw=>gn⟩
 ·rcases cs i x a e1 e3 with ⟨f1,f2⟩ | ⟨f1,rfl,rfl⟩
  ·rcases cs j x' a e2 e4 with ⟨g1,g2⟩ | ⟨g1,rfl,rfl⟩
   ·exact S.nd i j x x' a f1 g1 w1 w2 f2 g2
   ·exact absurd ((S.ob i x _ f1 f2).1.lt w1) (Nat.lt_irrefl _)
  ·rcases cs j x' _ e2 e4 with ⟨g1,g2⟩ | ⟨g1,rfl,-⟩
   ·exact absurd ((S.ob j x' _ g1 g2).1.lt w2) (Nat.lt_irrefl _)
   ·(first | lia | omega)
theorem SR.push (S:SR w ρ O G env h s as) (o:Obj) {ao:AO} (y:aC ρ O (as++[h.objs.size]) (h.push o) h.objs.size ao):SR w ρ O G env (h.push o) { s with ob:=s.ob++[ao] } (as++[h.objs.size]):=S.back (S.co.push o y) ⟨_,rfl⟩ rfl rfl
theorem SR.stay (S:SR w ρ O G env h s as) (k:h.StaysIn h'):SR w ρ O G env h' s as:=by
 apply bc;intro ng
 obtain ⟨f,l2,l1⟩:=S.lc
 apply ng;clear ng
 exact ⟨S.bs,fun a o e=>k _ _ (S.kp a o e),S.og,S.fL,S.eg,S.eb,S.ek,⟨f,l2.keeps k,l1⟩,S.cc,S.sz,fun i o a e e'=>⟨((S.ob i o a e e').1).keep .refl (fun zw x ex=>k _ _ ex),(S.ob i o a e e').2⟩,S.nd,S.pc⟩
theorem SR.stayX (S:SR w ρ O G env h s as) (k:Heap.ExtBut h.objs.size h h'):SR w ρ O G env h' s as :=
 S.stay fun b o e=>k b o (Nat.ne_of_lt (Heap.lt_size e)) e
theorem aY {a:Addr}:(as++[a])[as.length]? = some a:=by simp
theorem Be {vs:List AV} {Vs:List Value} {k:AV->St->Tr} {Q:Value->Shared->Prop} (hz:Vs.length<=1000) (y:(mk (.tup vs) s k).ok ρ post) (S:SR w ρ O G env h s as) (d:All2 (Dn ρ as) vs Vs)
  (q:∀v V s' h' as' n',(k v s').ok ρ post->SR w ρ O G env h' s' as'->aM as as'->Dn ρ as' v V->Q V ⟨h',gs,dr,n',os⟩):wpAny (model pr w) A (newTuple Vs) Q E ⟨h,gs,dr,n,os⟩:=by
 refine wpAny_newObj_type (s:=⟨h,gs,dr,n,os⟩) ?_ (by show Vs.toArray.size<=sizeLine; refine aa List.size_toArray (aa sizeLine_eq ?_); (first | lia | omega))
 refine q _ _ _ _ _ _ y (S.push _ ⟨Vs,d.mono fun zw zw z=>z.pre ⟨_,rfl⟩,_,Heap.get?_push_size _ rfl,rfl,_,rfl⟩) ⟨_,rfl⟩ ⟨_,?_,rfl⟩
 refine aa (Eq.symm S.sz) ?_; exact aY
theorem Ab {vs:List AV} {Vs:List Value} {k:AV->St->Tr} {Q:Value->Shared->Prop} (hz:Vs.length<=1000) (y:(mk (.pl vs) s k).ok ρ post) (S:SR w ρ O G env h s as) (d:All2 (Dn ρ as) vs Vs)
  (q:∀v V s' h' as' n',(k v s').ok ρ post->SR w ρ O G env h' s' as'->aM as as'->Dn ρ as' v V->Q V ⟨h',gs,dr,n',os⟩):wpAny (model pr w) A (newList Vs) Q E ⟨h,gs,dr,n,os⟩:=by
 refine wpAny_newObj_type (s:=⟨h,gs,dr,n,os⟩) ?_ (by show Vs.toArray.size<=sizeLine; rw [List.size_toArray,sizeLine_eq]; (first | lia | omega))
 refine q _ _ _ _ _ _ y (S.push _ ⟨Vs,d.mono fun zw zw z=>z.pre ⟨_,rfl⟩,_,Heap.get?_push_size _ rfl,_,rfl⟩) ⟨_,rfl⟩ ⟨_,?_,rfl⟩
 rw [<- S.sz]; exact aY
theorem C8 {a b:Addr} {Vs Us:List Value} {Q:Value->Shared->Prop} (t1:IsTup h a Vs.toArray) (t2:IsTup h b Us.toArray) (hz:Vs.length + Us.length<=1000)
  (h0:Vs = []->Q (.ref b) ⟨h,gs,dr,n,os⟩) (h1:Vs≠[]->Us = []->Q (.ref a) ⟨h,gs,dr,n,os⟩) (h2:Vs≠[]->Us≠[]->Q (.ref h.objs.size) ⟨h.push { cls:=.type "tuple",data:=.seq (Vs++Us).toArray },gs,dr,n,os⟩) :
  wpAny (model pr w) A (binaryOp .Add (.ref a) (.ref b)) Q E ⟨h,gs,dr,n,os⟩:=by
 apply bc;intro ng
 obtain ⟨⟨cls,dd,data,sl⟩,ho,hc,m,hd⟩:=id t1
 obtain ⟨⟨cls2,dd2,data2,sl2⟩,ho2,hc2,m2,hd2⟩:=id t2
 simp only at hc hd hc2 hd2
 subst hc hd hc2 hd2
 apply ng;clear ng
 have e:Vs.toArray++Us.toArray=(Vs++Us).toArray:=by simp
 by_cases hv:Vs = []
 ·exact concat_meets (s:=⟨h,gs,dr,n,os⟩) ⟨_,ho,rfl⟩ ⟨_,ho2,rfl⟩ noFill_tuple_add seq_tuple_add PySem.F.slot_tuple_add PySem.F.entry_tuple_add (PySem.F.args_tuple_add_2 _ _)
   (tuple_addW0 a b Vs.toArray Us.toArray m m2 dd dd2 sl sl2 (by simp [hv])) ⟨ho,ho2,h0 hv⟩
 ·by_cases hw:Us = []
  ·exact concat_meets (s:=⟨h,gs,dr,n,os⟩) ⟨_,ho,rfl⟩ ⟨_,ho2,rfl⟩ noFill_tuple_add seq_tuple_add PySem.F.slot_tuple_add PySem.F.entry_tuple_add (PySem.F.args_tuple_add_2 _ _)
    (tuple_addW1 a b Vs.toArray Us.toArray m m2 dd dd2 sl sl2 (by simpa using hv) (by simp [hw])) ⟨ho,ho2,h1 hv hw⟩
  ·refine concat_meets (s:=⟨h,gs,dr,n,os⟩) ⟨_,ho,rfl⟩ ⟨_,ho2,rfl⟩ noFill_tuple_add seq_tuple_add PySem.F.slot_tuple_add PySem.F.entry_tuple_add (PySem.F.args_tuple_add_2 _ _)
    (tuple_addW2 a b Vs.toArray Us.toArray m m2 dd dd2 sl sl2 (by simpa using hv) (by simpa using hw) (by refine aa List.size_toArray (aa List.size_toArray (aa sizeLine_eq ?_)); (first | lia | omega))) ⟨ho,ho2,?_⟩
   refine aa e ?_
   exact h2 hv hw
theorem wR {a b:Addr} {Vs Us:List Value} {Q:Value->Shared->Prop} (t1:h.IsList a Vs.toArray) (t2:h.IsList b Us.toArray) (hz:Vs.length + Us.length<=3000)
  (h2:Q (.ref h.objs.size) ⟨h.push { cls:=.type "list",data:=.seq (Vs++Us).toArray },gs,dr,n,os⟩) :
  wpAny (model pr w) A (binaryOp .Add (.ref a) (.ref b)) Q E ⟨h,gs,dr,n,os⟩:=by
 apply bc;intro ng
 obtain ⟨⟨cls,dd,data,sl⟩,ho,hc,m,hd⟩:=id t1
 obtain ⟨⟨cls2,dd2,data2,sl2⟩,ho2,hc2,m2,hd2⟩:=id t2
 simp only at hc hd hc2 hd2
 subst hc hd hc2 hd2
 apply ng;clear ng
 have e:Vs.toArray++Us.toArray=(Vs++Us).toArray:=by simp
 refine concat_meets (s:=⟨h,gs,dr,n,os⟩) ⟨_,ho,rfl⟩ ⟨_,ho2,rfl⟩ noFill_list_add seq_list_add PySem.F.slot_list_add PySem.F.entry_list_add (PySem.F.args_list_add_2 _ _)
  (list_addW a b Vs.toArray Us.toArray m m2 dd dd2 sl sl2 (by refine aa List.size_toArray (aa List.size_toArray (aa sizeLine_eq ?_)); (first | lia | omega))) ⟨ho,ho2,?_⟩
 refine aa e ?_
 exact h2
theorem xU {i j:Nat} {a b:Addr} {k:AV->St->Tr} {Q:Value->Shared->Prop} (y:(ER i j s k).ok ρ post) (S:SR w ρ O G env h s as) (e1:as[i]? = some a) (e2:as[j]? = some b)
  (q:∀v V s' h' as' n',(k v s').ok ρ post->SR w ρ O G env h' s' as'->aM as as'->Dn ρ as' v V->Q V ⟨h',gs,dr,n',os⟩):wpAny (model pr w) A (binaryOp .Add (.ref a) (.ref b)) Q E ⟨h,gs,dr,n,os⟩:=by
 have fin:∀{o:Obj} {ao:AO},(k (.loc s.ob.length) { s with ob:=s.ob++[ao] }).ok ρ post->aC ρ O (as++[h.objs.size]) (h.push o) h.objs.size ao->Q (.ref h.objs.size) ⟨h.push o,gs,dr,n,os⟩:=fun {o ao} y z =>
  q _ _ _ _ _ _ y (S.push _ z) ⟨_,rfl⟩ ⟨_,by refine aa (Eq.symm S.sz) ?_; exact aY,rfl⟩
 rcases cE y with ⟨p,e,y⟩ | ⟨-,y⟩
 ·obtain ⟨f1,f2⟩:=ah e
  apply bc;intro ng
  obtain ⟨Vs,a2,a3⟩:=S.vw (c:=.tup) cY f1 e1
  obtain ⟨Us,b2,b3⟩:=S.vw (c:=.tup) cY f2 e2
  have l1:=a2.len; have l2:=b2.len
  obtain ⟨hl,y⟩:=aj y
  apply ng;clear ng
  have hl:=of_decide_eq_true hl
  have nz:∀{l:List AV} {m:List Value},l.length=m.length->m = []->l.isEmpty=true:=fun {l m} e z=>by subst z; cases l with | nil=>rfl | cons=>cases e
  have nn:∀{l:List AV} {m:List Value},l.length=m.length->l.isEmpty=true->m = []:=fun {l m} e z=>by rw [List.isEmpty_iff.mp z] at e; exact List.eq_nil_of_length_eq_zero e.symm
  refine C8 (n:=n) a3 b3 (by (first | lia | omega)) (fun hv=>?_) (fun hv hu=>?_) fun hv hu=>?_
  ·rw [nz l1 hv] at y
   exact q _ _ _ _ _ _ y S .refl ⟨_,e2,rfl⟩
  ·rcases cG y with ⟨z,-⟩ | ⟨-,y⟩
   ·exact absurd (nn l1 z) hv
   ·rw [nz l2 hu] at y
    exact q _ _ _ _ _ _ y S .refl ⟨_,e1,rfl⟩
  ·rcases cG y with ⟨z,-⟩ | ⟨-,y⟩
   ·exact absurd (nn l1 z) hv
   ·rcases cG y with ⟨z,-⟩ | ⟨-,y⟩
    ·exact absurd (nn l2 z) hu
    ·exact fin y ⟨Vs++Us,(a2.app b2).mono fun zw zw z=>z.pre ⟨_,rfl⟩,_,Heap.get?_push_size _ rfl,rfl,_,rfl⟩
 ·obtain ⟨p,e,y⟩:=af y
  apply bc;intro ng
  obtain ⟨f1,f2⟩:=ah e
  obtain ⟨Vs,a2,a3⟩:=S.vw (c:=.lst) cB f1 e1
  obtain ⟨Us,b2,b3⟩:=S.vw (c:=.lst) cB f2 e2
  obtain ⟨hl,y⟩:=aj y
  apply ng;clear ng
  have hl:=of_decide_eq_true hl
  exact wR (n:=n) a3 b3 (by have l1:=a2.len; have l2:=b2.len; (first | lia | omega)) (fin y ⟨Vs++Us,(a2.app b2).mono fun zw zw z=>z.pre ⟨_,rfl⟩,_,Heap.get?_push_size _ rfl,_,rfl⟩)
theorem ir {op:Operator} {a b:AV} {k:AV->St->Tr} {V U:Value} {Q:Value->Shared->Prop} (y:(r5 op a b s k).ok ρ post) (S:SR w ρ O G env h s as) (d:Dn ρ as a V) (d':Dn ρ as b U)
  (q:∀v V s' h' as' n',(k v s').ok ρ post->SR w ρ O G env h' s' as'->aM as as'->Dn ρ as' v V->Q V ⟨h',gs,dr,n',os⟩):wpAny (model pr w) A (binaryOp op V U) Q E ⟨h,gs,dr,n,os⟩:=by
 have q':∀{e:IE} {z:Int} {t n':Tok},(k (.int e) s).ok ρ post->z=e.den ρ->Q (.int z t) ⟨h,gs,dr,n',os⟩:=fun {e z t n'} y e2=>q _ _ _ _ _ n' y S .refl ⟨t,congrArg (fun z=>Value.int z t) e2⟩
 induction op using Operator.casesOn <;> try exact y.elim
 ·rcases cE y with ⟨p,e,y⟩ | ⟨-,y⟩
  ·obtain ⟨t,u,rfl,rfl⟩:=bF e d d'
   exact Dj fun t n'=>q' y lJ.symm
  ·obtain ⟨p,e,y⟩:=af y
   obtain ⟨x,z,e1,e2,rfl,rfl⟩:=pz e d d'
   exact xU y S e1 e2 q
 ·obtain ⟨p,e,y⟩:=af y
  obtain ⟨t,u,rfl,rfl⟩:=bF e d d'
  exact Fp fun t n'=>q' y rr.symm
 ·obtain ⟨p,e,y⟩:=af y
  obtain ⟨t,u,rfl,rfl⟩:=bF e d d'
  obtain ⟨y1,y⟩:=rA y
  exact Da y1 fun t n'=>q' y tx.symm
 ·obtain ⟨p,e,y⟩:=af y
  obtain ⟨t,u,rfl,rfl⟩:=bF e d d'
  obtain ⟨y1,y⟩:=ij y
  exact zj y1 fun t n'=>q' y rfl
 ·obtain ⟨p,e,y⟩:=af y
  obtain ⟨t,u,rfl,rfl⟩:=bF e d d'
  obtain ⟨y1,y⟩:=ij y
  obtain ⟨y2,y⟩:=ij y
  exact EH y1 y2 fun t n'=>q' y rfl
end
end
section
open PySem PySem.W PyProof.Rows PySem.Calls Builtin Builtin.ObjectAttr
def lN (ρ:Rho) (as:List Addr):Fl->Flow->Prop
 | .nx,f=>f = .next
 | .rt v,f=>∃V,f = .ret V/\Dn ρ as v V
 | .bk,f=>f = .brk
 | .ct,f=>f = .cont
structure Snd (w:World) (ρ:Rho) (O:Opq) (d:Nat) (r:Rc):Prop where
 E:∀{post:Fl->St->Prop} {e s k} {A:Around} {env:Env} {gs dr os} {G:Gr} {h:Heap} {n:Nat} {as:List Addr} {Q:Value->Shared->Prop} {Er:Value->Shared->Prop},
  Room A d->(r.E env.scope e s k).ok ρ post->SR w ρ O G env h s as->
  (∀v V s' h' as' n',(k v s').ok ρ post->SR w ρ O G env h' s' as'->aM as as'->Dn ρ as' v V->Q V ⟨h',gs,dr,n',os⟩)->wpAny (model pr w) A (eval e env) Q Er ⟨h,gs,dr,n,os⟩
 T:∀{post:Fl->St->Prop} {e s k} {A:Around} {env:Env} {gs dr os} {G:Gr} {h:Heap} {n:Nat} {as:List Addr} {Q:Bool->Shared->Prop} {Er:Value->Shared->Prop} {whole:Sem Value},
  Room A d->(r.T env.scope e s k).ok ρ post->SR w ρ O G env h s as->(dY e=true->whole=eval e env)->
  (∀c s' h' as' n',(k c s').ok ρ post->SR w ρ O G env h' s' as'->aM as as'->Q c ⟨h',gs,dr,n',os⟩)->wpAny (model pr w) A (isTrue e env whole) Q Er ⟨h,gs,dr,n,os⟩
 S:∀{post:Fl->St->Prop} {b s k} {A:Around} {env:Env} {gs dr os} {G:Gr} {h:Heap} {n:Nat} {as:List Addr} {Q:Flow->Shared->Prop} {Er:Value->Shared->Prop},
  Room A d->(r.S env.scope b s k).ok ρ post->SR w ρ O G env h s as->
  (∀fl F s' h' as' n',(k fl s').ok ρ post->SR w ρ O G env h' s' as'->aM as as'->lN ρ as' fl F->Q F ⟨h',gs,dr,n',os⟩)->wpAny (model pr w) A (exec b env) Q Er ⟨h,gs,dr,n,os⟩
 C:∀{post:Fl->St->Prop} {fv args s k} {A:Around} {gs dr os} {G:Gr} {h:Heap} {n:Nat} {as:List Addr} {V:Value} {Us:List Value} {Q:Value->Shared->Prop} {Er:Value->Shared->Prop},
  Room A d->(r.C fv args s k).ok ρ post->Co w ρ O G h s.ob s.pc as->Dn ρ as fv V->All2 (Dn ρ as) args Us->
  (∀v V s' h' as' n',s'.ls=s.ls->s'.cl=s.cl->(k v s').ok ρ post->Co w ρ O G h' s'.ob s'.pc as'->aM as as'->Dn ρ as' v V->Q V ⟨h',gs,dr,n',os⟩)->wpAny (model pr w) A (call V Us) Q Er ⟨h,gs,dr,n,os⟩
theorem rM {w:World} {ρ:Rho} {O:Opq} {d:Nat}:Snd w ρ O d nil:=⟨fun zw y=>y.elim,fun zw y=>y.elim,fun zw y=>y.elim,fun zw y=>y.elim⟩
section
variable {w:World} {ρ:Rho} {O:Opq} {d:Nat} {r:Rc} {post:Fl->St->Prop} {env:Env} {A:Around} {gs:Array GenState} {dr:Drawn} {os:OsState} {G:Gr} {Er:Value->Shared->Prop}
theorem All2.pre {as as':List Addr} (p:aM as as') {vs:List AV} {Vs:List Value} (x:All2 (Dn ρ as) vs Vs):All2 (Dn ρ as') vs Vs:=x.mono fun zw zw z=>z.pre p
theorem aX {e:Expr} {rest:List Expr} {env:Env} (he:aK e=false):starEach (e::rest) env=(false,eval e env)::starEach rest env:=by
 cases e <;> first | rfl | cases he
theorem cQ (R:Snd w ρ O d r) (hR:Room A d) {pos:Pos}:∀{es:List Expr} {s:St} {k:List AV->St->Tr} {h:Heap} {n:Nat} {as:List Addr} {Q:List Value->Shared->Prop},(m7 r env.scope es s k).ok ρ post->SR w ρ O G env h s as->
  (∀vs Vs s' h' as' n',(k vs s').ok ρ post->SR w ρ O G env h' s' as'->aM as as'->All2 (Dn ρ as') vs Vs->Vs.length=es.length->Q Vs ⟨h',gs,dr,n',os⟩)->
  wpAny (model pr w) A (spliced (backTo pos (starEach es env))) Q Er ⟨h,gs,dr,n,os⟩
 | [],s,k,h,n,as,Q,y,S,q=>PyProof.Rows.spliced_none (q _ _ _ _ _ _ y S .refl .nil rfl)
 | e::es,s,k,h,n,as,Q,y,S,q=>by
  simp only [m7] at y
  split at y
  ·exact y.elim
  ·rename_i hs
   rw [Bool.not_eq_true] at hs
   refine PyProof.Rows.spliced_more ?_ (aX hs)
   refine R.E hR y S fun v V s' h' as' n' y S' p dv=>?_
   refine cQ R hR y S' fun vs Vs s'' h'' as'' n'' y S'' p' dvs hl=>?_
   exact q _ _ _ _ _ _ y S'' (p.trans p') (.cons (dv.pre p') dvs) (by simp [hl])
theorem zd (v:AV) (k:AV->Tr):fV v k=k v:=by induction v using AV.casesOn <;> rfl
theorem jO:∀(l:List AV) (k:List AV->Tr),Dq l k=k l
 | [],k=>rfl
 | v::r,k=>by exact (zd v _).trans (jO r _)
theorem mX:∀(l:List (Str×AV)) (k:List (Str×AV)->Tr),GI l k=k l
 | [],k=>rfl
 | (x,v)::r,k=>by exact (zd v _).trans (mX r _)
theorem Df (v:AO) (k:AO->Tr):fO v k=k v:=by
 induction v using AO.casesOn with
 | lst vs=>exact jO vs _
 | pl vs=>exact jO vs _
 | tup vs=>exact jO vs _
 | ns fs=>exact mX fs _
 | _=>rfl
theorem t6:∀(l:List AO) (k:List AO->Tr),Id l k=k l
 | [],k=>rfl
 | v::r,k=>by exact (Df v _).trans (t6 r _)
theorem B9 (s:St) (k:St->Tr):MM s k=k s:=by induction s using St.casesOn; exact (mX _ _).trans (t6 _ _)
theorem cj (R:Snd w ρ O d r) (hR:Room A d):∀{bs:List Stmt} {s:St} {k:Fl->St->Tr} {h:Heap} {n:Nat} {as:List Addr} {Q:Flow->Shared->Prop},(qm r env.scope bs s k).ok ρ post->SR w ρ O G env h s as->
  (∀fl F s' h' as' n',(k fl s').ok ρ post->SR w ρ O G env h' s' as'->aM as as'->lN ρ as' fl F->Q F ⟨h',gs,dr,n',os⟩)->wpAny (model pr w) A (execs bs env) Q Er ⟨h,gs,dr,n,os⟩
 | [],s,k,h,n,as,Q,y,S,q=>wpAny_execs_nil (q _ _ _ _ _ _ y S .refl rfl)
 | b::bs,s,k,h,n,as,Q,y,S,q=>by
  simp only [qm] at y
  refine wpAny_execs_cons (R.S hR y S fun fl F s' h' as' n' y S' p df=>?_)
  rw [B9] at y
  induction fl with
  | nx =>
   have df:F = .next:=df
   subst df
   exact cj R hR y S' fun fl F s'' h'' as'' n'' y S'' p' df=>q _ _ _ _ _ _ y S'' (p.trans p') df
  | rt v =>
   obtain ⟨V,rfl,dv⟩:=df
   exact q _ _ _ _ _ _ y S' p ⟨V,rfl,dv⟩
  | bk =>
   have df:F = .brk:=df
   subst df
   exact q .bk _ _ _ _ _ y S' p rfl
  | ct =>
   have df:F = .cont:=df
   subst df
   exact q .ct _ _ _ _ _ y S' p rfl
theorem mP {e:Expr} (hp:dY e=true) (env:Env) (whole:Sem Value):isTrue e env whole=(do let v <- whole; standAt e.pos; holding [v] (truthy v)):=by
 induction e using Expr.casesOn <;> first | rfl | exact bH hp
theorem gv {op:CmpOp} {a b:AV} {k:Bool->St->Tr} {V U:Value} {s:St} {h:Heap} {n:Nat} {as:List Addr} {Q:Bool->Shared->Prop} (hu:A.units < cLine) (y:(gG op a b s k).ok ρ post) (S:SR w ρ O G env h s as) (d:Dn ρ as a V) (d':Dn ρ as b U)
  (q:∀c s' n',(k c s').ok ρ post->SR w ρ O G env h s' as->Q c ⟨h,gs,dr,n',os⟩):wpAny (model pr w) A (compareOp op V U) (fun c s₃=>wpAny (model pr w) A (truthy c) Q Er s₃) Er ⟨h,gs,dr,n,os⟩ :=
 dI hu y S d d' fun c s' n' y S=>wpAny_truthy_bool (q c s' n' y S)
set_option tactic.hygienic true
theorem iD (R:Snd w ρ O d r) {e:Expr} {s:St} {k:Bool->St->Tr} {h:Heap} {n:Nat} {as:List Addr} {Q:Bool->Shared->Prop} {whole:Sem Value} (hR:Room A d) (y:(stepT r env.scope e s k).ok ρ post) (S:SR w ρ O G env h s as)
  (hw:dY e=true->whole=eval e env) (q:∀c s' h' as' n',(k c s').ok ρ post->SR w ρ O G env h' s' as'->aM as as'->Q c ⟨h',gs,dr,n',os⟩):wpAny (model pr w) A (isTrue e env whole) Q Er ⟨h,gs,dr,n,os⟩:=by
 have dft:(bO (dY e) (r.E env.scope e s fun v s=>qD v s k)).ok ρ post->wpAny (model pr w) A (isTrue e env whole) Q Er ⟨h,gs,dr,n,os⟩:=fun y=>by
  obtain ⟨hp,y⟩:=aj y
  refine aa (hw hp) ?_
  refine PyProof.Rows.isTrue_plain (R.E hR y S fun v V s' h' as' n' y S' p dv=>?_) (mP hp _ _)
  exact ig y S' dv fun c s3 n3 y S3=>q _ _ _ _ _ y S3 p
 induction e using Expr.casesOn <;> try exact dft y
 ·rename_i op vs p
  cases op with
  | And =>
   induction vs using List.casesOn with
   | nil=>exact PyProof.Rows.isTrue_and_nil (q _ _ _ _ _ y S .refl)
   | cons a rest =>
    refine PyProof.Rows.isTrue_and (R.T hR y S (fun zw=>rfl) fun c s' h' as' n' y S' p=>?_)
    induction c with
    | true=>exact R.T hR y S' (fun e=>bH e) fun c s'' h'' as'' n'' y S'' p'=>q _ _ _ _ _ y S'' (p.trans p')
    | false=>exact q _ _ _ _ _ y S' p
  | Or =>
   induction vs using List.casesOn with
   | nil=>exact PyProof.Rows.isTrue_or_nil (q _ _ _ _ _ y S .refl)
   | cons a rest =>
    refine PyProof.Rows.isTrue_or (R.T hR y S (fun zw=>rfl) fun c s' h' as' n' y S' p=>?_)
    induction c with
    | false=>exact R.T hR y S' (fun e=>bH e) fun c s'' h'' as'' n'' y S'' p'=>q _ _ _ _ _ y S'' (p.trans p')
    | true=>exact q _ _ _ _ _ y S' p
 ·rename_i op a pos
  cases op <;> try exact y.elim
  exact PyProof.Rows.isTrue_not (R.T hR y S (fun zw=>rfl) fun c s' h' as' n' y S' p=>q _ _ _ _ _ y S' p)
 ·have hu:A.units < cLine:=by have:=hR.un; (first | lia | omega)
  rcases cE y with ⟨z,e,y⟩ | ⟨-,y⟩
  ·obtain ⟨e1,e2⟩:=ah e
   refine aa (ba e1) (aa (ba e2) ?_)
   rcases cG y with ⟨-,y⟩ | ⟨hm,y⟩
   ·exact y.elim
   refine wpAny_isTrue_Compare1 (R.E hR y S fun v V s' h' as' n' y S' p dv=>?_) hm
   refine R.E hR y S' fun u U s'' h'' as'' n'' y S'' p' du=>?_
   exact gv hu y S'' (dv.pre p') du fun c s3 n3 y S3=>q _ _ _ _ _ y S3 (p.trans p')
  ·obtain ⟨z,e,y⟩:=af y
   obtain ⟨e1,e2⟩:=ah e
   refine aa (cq e1) (aa (cq e2) ?_)
   rcases cG y with ⟨-,y⟩ | ⟨hm,y⟩
   ·exact y.elim
   refine PyProof.Rows.isTrue_chain (R.E hR y S fun v V s' h' as' n' y S' p dv=>?_) hm
   refine PyProof.Rows.test_link (R.E hR y S' fun u U s'' h'' as'' n'' y S'' p' du=>?_)
   refine gv hu y S'' (dv.pre p') du fun c s3 n3 y S3=>?_
   induction c with
   | true =>
    refine PyProof.Rows.test_last (R.E hR y S3 fun z Z s4 h4 as4 n4 y S4 p4 dz=>?_)
    exact gv hu y S4 (du.pre p4) dz fun c s3 n3 y S3=>q _ _ _ _ _ y S3 ((p.trans p').trans p4)
   | false=>exact q _ _ _ _ _ y S3 (p.trans p')
theorem eQ {o:Expr} {name:Str} {env:Env} {whole:Sem Value} (hc:cu o=false):attributeBase o name env whole=whole:=by
 induction o using Expr.casesOn <;> try rfl
 rename_i f args kw p
 cases f <;> try rfl
 cases args with
 | cons _ _=>rfl
 | nil =>
  induction kw using List.casesOn with
  | cons _ _=>rfl
  | nil=>exact bH hc.symm
set_option tactic.hygienic false
theorem dH {it:Expr} {env:Env} (e:cp it=false) (x:Value):foldedSetIterable it env x=pure x:=by
 cases it <;> first | rfl | cases e
theorem zA {o:AO} {p:Bool×Nat×Nat} (h:o.it? = some p):o=Ah p.1 p.2.1 p.2.2:=by induction o using AO.casesOn <;> first | exact congrArg (fun p:Bool×Nat×Nat=>Ah p.1 p.2.1 p.2.2) (aF h) | exact ap h
theorem oO {s:St} {h:Heap} {n:Nat} {as:List Addr} {m:Nat} {it:Addr} {p:Option AV×AO} {Q:Option Value->Shared->Prop} (hd:A.handled=none) (S:SR w ρ O G env h s as) (hm:as[m]? = some it) (e:nH s m=some p)
  (q1:∀v V h',p.1=some v->Dn ρ as v V->SR w ρ O G env h' { s with ob:=s.ob.set m p.2 } as->Q (some V) ⟨h',gs,dr,n,os⟩)
  (q2:∀h',p.1=none->SR w ρ O G env h' { s with ob:=s.ob.set m .dead } as->Q none ⟨h',gs,dr,n,os⟩):wpAny (model pr w) A (pyNext (.ref it)) Q Er ⟨h,gs,dr,n,os⟩:=by
 apply bc;intro ng
 obtain ⟨⟨b,j,i⟩,e1,e⟩:=az e
 obtain ⟨vs,e2,e⟩:=gU e
 subst e
 obtain ⟨o,e1,e3⟩:=az e1
 rw [zA e3] at e1
 have ow:(Ah b j i).own=true:=by cases b <;> rfl
 obtain ⟨it',a1,a2,-⟩:=S.get e1
 apply ng;clear ng
 rw [hm] at a1
 rw [<- aF a1] at a2
 induction b with
 | true =>
  apply bc;intro ng
  obtain ⟨l,a2,a3⟩:=a2
  obtain ⟨Vs,b2,b3⟩:=S.vw (c:=.lst) cB e2 a2
  apply ng;clear ng
  have hl:h.IsList l Vs.toArray:=b3
  induction ev:vs[i]? with
  | some v =>
   apply bc;intro ng
   obtain ⟨V,v1,v2⟩:=b2.get ev
   apply ng;clear ng
   exact wpAny_pyNext_list_item (s:=⟨h,gs,dr,n,os⟩) a3 hl (x:=V) (by simpa using v1) fun h' hit hs=>q1 v V h' ev v2 (S.obj e1 ow hm hs ⟨l,a2,hit⟩)
  | none=>exact wpAny_pyNext_list_end (s:=⟨h,gs,dr,n,os⟩) hd a3 hl (by have:=b2.len; simp at ev ⊢; (first | lia | omega)) fun h' hs=>q2 h' ev (S.obj' (o':=.dead) e1 ow hm hs trivial)
 | false =>
  apply bc;intro ng
  obtain ⟨l,a2,a3⟩:=a2
  obtain ⟨Vs,b2,b3⟩:=S.vw (c:=.tup) cY e2 a2
  apply ng;clear ng
  have hl:IsTup h l Vs.toArray:=b3
  induction ev:vs[i]? with
  | some v =>
   apply bc;intro ng
   obtain ⟨V,v1,v2⟩:=b2.get ev
   apply ng;clear ng
   exact next_tuple_item (s:=⟨h,gs,dr,n,os⟩) a3 hl (x:=V) (by simpa using v1) fun h' hit hs=>q1 v V h' ev v2 (S.obj e1 ow hm hs ⟨l,a2,hit⟩)
  | none=>exact next_tuple_end (s:=⟨h,gs,dr,n,os⟩) hd a3 hl (by have:=b2.len; simp at ev ⊢; (first | lia | omega)) fun h' hs=>q2 h' ev (S.obj' (o':=.dead) e1 ow hm hs trivial)
theorem kA (R:Snd w ρ O d r) {x:Str} {px:Pos} {body:List Stmt} {m:Nat} {it:Addr} {k:Fl->St->Tr} {Q:Flow->Shared->Prop} (hR:Room A d) {as₀:List Addr}
  (q:∀fl F s' h' as' n',(k fl s').ok ρ post->SR w ρ O G env h' s' as'->aM as₀ as'->lN ρ as' fl F->Q F ⟨h',gs,dr,n',os⟩) {nn:Nat} {s:St} {h:Heap} {n:Nat} {as:List Addr} (y:(lO r env.scope x body m k nn s).ok ρ post) (S:SR w ρ O G env h s as) (p₀:aM as₀ as)
  (hm:as[m]? = some it) :
  codeAny (model pr w) A (.forLoop (.Name x px) (.ref it) body [] env) (fun r s'=>match r with | .ok f=>Q f s' | .error e=>cameBackBy (model pr w) A env Er e s') ⟨h,gs,dr,n,os⟩:=by
 refine codeAny_forLoop (fun nn st=>∃s h n as,st=⟨h,gs,dr,n,os⟩/\(lO r env.scope x body m k nn s).ok ρ post/\SR w ρ O G env h s as/\aM as₀ as/\as[m]? = some it) (fun nn st I=>?_) nn ⟨s,h,n,as,rfl,y,S,p₀,hm⟩
 apply bc;intro ng
 obtain ⟨s,h,n,as,rfl,y,S,p₀,hm⟩:=I
 apply ng;clear ng
 induction nn using Nat.casesOn with
 | zero=>exact y.elim
 | succ nn =>
  apply bc;intro ng
  obtain ⟨p,ep,y⟩:=af y
  apply ng;clear ng
  refine oO hR.hd S hm ep (fun v V h' ev dv S=>?_) fun h' ev S=>?_
  ·rw [ev] at y
   refine wpAny_assign_Name (aW y S dv fun s'' h'' n'' y S''=>?_)
   refine cj R hR y S'' fun fl F s3 h3 as3 n3 y S3 p3 df=>?_
   induction fl with
   | nx=>have df:F = .next:=df; subst df; exact ⟨nn,Nat.lt_succ_self _,_,_,_,_,rfl,y,S3,p₀.trans p3,p3.get hm⟩
   | ct=>have df:F = .cont:=df; subst df; exact ⟨nn,Nat.lt_succ_self _,_,_,_,_,rfl,y,S3,p₀.trans p3,p3.get hm⟩
   | bk=>have df:F = .brk:=df; subst df; exact q _ _ _ _ _ _ y S3 (p₀.trans p3) rfl
   | rt v=>obtain ⟨V,rfl,dv⟩:=df; exact q _ _ _ _ _ _ y S3 (p₀.trans p3) ⟨V,rfl,dv⟩
  ·rw [ev] at y
   exact wpAny_execs_nil (q _ _ _ _ _ _ y S p₀ rfl)
theorem oq {s:St} {h:Heap} {n:Nat} {as:List Addr} {v:AV} {V:Value} {io:AO} {Q:Value->Shared->Prop} (S:SR w ρ O G env h s as) (d:Dn ρ as v V) (e:AM v s=some io)
  (q:∀o,(∀{E:Value->Shared->Prop} {Q:Value->Shared->Prop} {h2:Heap},(h.push o).StaysIn h2->Q (.ref h.objs.size) ⟨h2,gs,dr,n,os⟩->wpAny (model pr w) A (pyIter (.ref h.objs.size)) Q E ⟨h2,gs,dr,n,os⟩)->
   SR w ρ O G env (h.push o) { s with ob:=s.ob++[io] } (as++[h.objs.size])->Q (.ref h.objs.size) ⟨h.push o,gs,dr,n,os⟩):wpAny (model pr w) A (pyIter V) Q Er ⟨h,gs,dr,n,os⟩:=by
 apply bc;intro ng
 obtain ⟨j,ej,e⟩:=az e
 rw [bN ej] at d
 obtain ⟨a,ea,rfl⟩:=d
 apply ng;clear ng
 have ea':(as++[h.objs.size])[j]? = some a:=aM.get ⟨_,rfl⟩ ea
 have st:∀{f:AO->Option (List AV)},(v.l?.bind s.at).bind f=(s.at j).bind f:=fun {f}=>by refine aa ej ?_; rfl
 induction el:lstAt s v with
 | some vs =>
  rw [el] at e
  have e:=aF e
  apply bc;intro ng
  subst e
  obtain ⟨Vs,b2,b3⟩:=S.vw (c:=.lst) cB (st.symm.trans el) ea
  apply ng;clear ng
  have hl:h.IsList a Vs.toArray:=b3
  exact wpAny_pyIter_list (s:=⟨h,gs,dr,n,os⟩) hl (q _ (fun kk z=>wpAny_pyIter_listiter (l:=a) (i:=0) ⟨_,kk _ _ (Heap.get?_push_size _ rfl),rfl,rfl⟩ z) (S.push _ (ao:=.lit j 0) ⟨a,ea',_,Heap.get?_push_size _ rfl,rfl,rfl⟩))
 | none =>
  rw [el] at e
  apply bc;intro ng
  obtain ⟨vs,et,e⟩:=gU e
  subst e
  obtain ⟨Vs,b2,b3⟩:=S.vw (c:=.tup) cY (st.symm.trans et) ea
  apply ng;clear ng
  have hl:IsTup h a Vs.toArray:=b3
  exact iter_tuple (s:=⟨h,gs,dr,n,os⟩) hl (q _ (fun kk z=>wpAny_pyIter_tupleiter (t:=a) (i:=0) ⟨_,kk _ _ (Heap.get?_push_size _ rfl),rfl,rfl⟩ z) (S.push _ (ao:=.tit j 0) ⟨a,ea',_,Heap.get?_push_size _ rfl,rfl,rfl⟩))
theorem mi {vs:List Expr} (h:vs.all iq=true):vs.all (foldedForSure 8)=true:=by
 rw [List.all_eq_true] at h ⊢
 intro e m
 have:=h e m
 cases e <;> first | rfl | exact bH this
theorem nr {elts:List Expr} {k0:Nat} {tpos:Pos} {e:Expr} {l:Nat} (hc:dO e=false):swapsWithSole [.Tuple elts k0 tpos] e l env=pure false:=by
 induction e using Expr.casesOn <;> first | rfl | exact bH hc.symm
noncomputable def M5 (b1 b2 b3 b4 b5:Bool) (ns:List Str):Sem (Option (List Str)):=do
 if b1=true then return none
 if b2=true then return none
 if b3=true then return none
 if b4=true then return none
 if b5=true then unsupported "assign.tuple-of-constant-expressions:order-of-the-stores"
 return some ns
theorem sH {b1 b2 b3 b4 b5:Bool} {ns:List Str} (h:b3=true\/b4=true):M5 b1 b2 b3 b4 b5 ns=pure none:=by
 induction b1 with
 | true=>rfl
 | false =>
  induction b2 with
  | true=>rfl
  | false =>
   induction b3 with
   | true=>rfl
   | false=>induction h with | inl h=>exact bH h | inr h=>refine aa h ?_; rfl
set_option tactic.hygienic true
theorem z9 {elts:List Expr} {k0:Nat} {tpos:Pos} {e:Expr} (hc:iG e=false):swappedStores [.Tuple elts k0 tpos] e env=pure none:=by
 induction e using Expr.casesOn <;> try rfl
 rename_i vs k1 p1
 have hc:(!(vs.all iq))=false:=hc
 exact sH (b1:=_) (b2:=_) (b3:=_) (b5:=_) (ns:=_) (.inr (mi (by induction q:vs.all iq with | true=>rfl | false=>rw [q] at hc; exact bH hc.symm)))
set_option tactic.hygienic false
theorem iY {t:Option Expr} {e:Expr} {l:Nat} (hc:dO e=false):swapsWith e t l env=pure false:=by
 induction e using Expr.casesOn <;> first | rfl | exact bH hc.symm
theorem vd {i:Expr} (hs:cv i=false) (ov iv new:Value):augStore i ov iv new=(do holding [new,ov,iv] (setItem ov iv new); release [new,ov,iv] []; pure .next):=by
 cases i <;> first | rfl | cases hs
theorem uM {e:Expr} (h:cS e=true):(∃x p,e = .Name x p)\/∃o n p,e = .Attribute o n p:=by
 induction e using Expr.casesOn <;> first | exact bH h | exact .inl ⟨_,_,rfl⟩ | exact .inr ⟨_,_,_,rfl⟩
theorem gb {elts:List Expr} (h:elts.all cS=true):(assignEach elts env).length=elts.length/\∀x∈assignEach elts env,x.1=false:=by
 induction elts with
 | nil=>exact ⟨rfl,fun zw m=>nomatch m⟩
 | cons e r ih =>
  obtain ⟨i1,i2⟩:=ih (au h)
  rcases uM (ag h) with ⟨x,p,rfl⟩ | ⟨o,n,p,rfl⟩
  ·exact ⟨congrArg (· + 1) i1,List.forall_mem_cons.mpr ⟨rfl,i2⟩⟩
  ·exact ⟨congrArg (· + 1) i1,List.forall_mem_cons.mpr ⟨rfl,i2⟩⟩
theorem gD {elts:List Expr} (h:elts.all cS=true):(assignEach elts env).findIdx? (·.1)=none:=List.findIdx?_eq_none_iff.mpr (gb h).2
set_option tactic.hygienic true
theorem eN (R:Snd w ρ O d r) (hR:Room A d) {elts:List Expr} {vs:List AV} {Vs:List Value} {s:St} {k:St->Tr} {h:Heap} {n:Nat} {as:List Addr} {Q:Unit->Shared->Prop} (hp:elts.all cS=true) (y:(dB w.params r env.scope elts vs s k).ok ρ post)
  (S:SR w ρ O G env h s as) (dv:All2 (Dn ρ as) vs Vs) (q:∀s' h' as' n',(k s').ok ρ post->SR w ρ O G env h' s' as'->aM as as'->Q () ⟨h',gs,dr,n',os⟩) :
  wpAny (model pr w) A (assignInOrder ((assignEach elts env).map (·.2)) Vs) Q Er ⟨h,gs,dr,n,os⟩:=by
 induction elts generalizing vs Vs s h n as with
 | nil =>
  cases dv with
  | nil=>exact assignInOrder_nil (q _ _ _ _ y S .refl)
  | cons _ _=>exact y.elim
 | cons e es ih =>
  cases dv with
  | nil=>exact y.elim
  | cons dv dvs =>
   rcases uM (ag hp) with ⟨x,p,rfl⟩ | ⟨o,name,p,rfl⟩
   ·rename_i vs _
    refine assignInOrder_cons (wpAny_assign_Name (aW (k:=fun s=>dB w.params r env.scope es vs s k) y S dv fun s' h' n' y S'=>?_))
    exact ih (au hp) y S' dvs q
   ·refine assignInOrder_cons ?_
    show wpAny _ _ (assign (.Attribute o name p) env _) _ _ _
    rw [assign_Attribute]
    refine wpAny_bind (wpAny_holding (R.E hR y S fun ov OV s' h' as' n' y S' p dv'=>?_))
    refine wpAny_bind (wpAny_standAt (wpAny_bind (wpAny_holding (eH y S' dv' (dv.pre p) fun s3 h3 n3 y S3=>?_))))
    refine wpAny_release ?_
    exact ih (au hp) y S3 (dvs.pre p) fun s4 h4 as4 n4 y S4 p4=>q _ _ _ _ y S4 (p.trans p4)
set_option tactic.hygienic false
theorem iz {e:Expr} {x:Str} (h:iX e=some x):∃p,e = .Name x p:=by induction e using Expr.casesOn <;> first | exact ⟨_,congrArg (fun x=>Expr.Name x _) (aF h)⟩ | exact ap h
theorem qy {e:Expr} (h:pt e=true):dO e=false:=by
 unfold dO; refine aa (Nat.eq_of_beq_eq_true h) ?_; rfl
theorem vk (R:Snd w ρ O d r) {t e:Expr} {pos:Pos} {s:St} {k:St->Tr} {h:Heap} {n:Nat} {as:List Addr} {Q:Flow->Shared->Prop} (hR:Room A d) (hc:dO e=false) (y:(El w.params r env.scope t e s k).ok ρ post) (S:SR w ρ O G env h s as)
  (q:∀s' h' as' n',(k s').ok ρ post->SR w ρ O G env h' s' as'->aM as as'->Q .next ⟨h',gs,dr,n',os⟩):wpAny (model pr w) A (exec (.Assign [t] e pos) env) Q Er ⟨h,gs,dr,n,os⟩:=by
 induction t using Expr.casesOn <;> try exact y.elim
 ·refine plainObj_wpAny_Assign_Attribute (R.E hR y S fun v V s' h' as' n' y S' p dv=>?_) (iY hc)
  refine R.E hR y S' fun ov OV s'' h'' as'' n'' y S'' p' do'=>?_
  exact eH y S'' do' (dv.pre p') fun s3 h3 n3 y S3=>q _ _ _ _ y S3 (p.trans p')
 ·refine wpAny_Assign_Subscript (R.E hR y S fun v V s' h' as' n' y S' p dv=>?_) (iY hc)
  refine R.E hR y S' fun ov OV s2 h2 as2 n2 y S2 p2 d2=>?_
  refine R.E hR y S2 fun iv IV s3 h3 as3 n3 y S3 p3 d3=>?_
  exact d7 y S3 (d2.pre p3) d3 ((dv.pre p2).pre p3) fun s4 h4 n4 y S4=>q _ _ _ _ y S4 ((p.trans p2).trans p3)
 ·refine wpAny_Assign_Name (R.E hR y S fun v V s' h' as' n' y S' p dv=>?_) (iY hc)
  exact aW y S' dv fun s2 h'' n'' y S''=>q _ _ _ _ y S'' p
 ·obtain ⟨ht,y⟩:=aj y
  refine Assign_Tuple (R.E hR y S fun v V s' h' as' n' y S' p dv=>?_) (nr hc) (z9 (iO ht))
  apply bc;intro ng
  obtain ⟨vs,ev,y⟩:=af y
  obtain ⟨a,Vs,rfl,b2,b3⟩:=bD S'.hat ev dv
  obtain ⟨hlen,y⟩:=aj y
  apply ng;clear ng
  have hl:IsTup h' a Vs.toArray:=b3
  have h1:=of_decide_eq_true (ag hlen)
  refine assign_Tuple_tuple (s:=⟨h',gs,dr,n',os⟩) hR.hd hl (by refine aa ((gb (au hlen)).1) ?_; have:=b2.len; simp; (first | lia | omega)) (gD (au hlen)) fun h2 hx=>?_
  exact eN R hR (au hlen) y (S'.stayX hx) b2 fun s3 h3 as3 n3 y S3 p3=>q _ _ _ _ y S3 (p.trans p3)
theorem vo (R:Snd w ρ O d r) {t e:Expr} {op:Operator} {pos:Pos} {s:St} {k:St->Tr} {h:Heap} {n:Nat} {as:List Addr} {Q:Flow->Shared->Prop} (hR:Room A d) (y:(Eh w.params r env.scope t op e s k).ok ρ post) (S:SR w ρ O G env h s as)
  (q:∀s' h' as' n',(k s').ok ρ post->SR w ρ O G env h' s' as'->aM as as'->Q .next ⟨h',gs,dr,n',os⟩):wpAny (model pr w) A (exec (.AugAssign t op e pos) env) Q Er ⟨h,gs,dr,n,os⟩:=by
 induction t using Expr.casesOn <;> try exact y.elim
 ·refine wpAny_AugAssign_AttributeAny (R.E hR y S fun ov OV s' h' as' n' y S' p d1=>?_)
  refine i7 y S' d1 fun old OLD n2 y d2=>?_
  refine R.E hR y S' fun v V s3 h3 as3 n3 y S3 p3 d3=>?_
  refine kZ y (d2.pre p3) d3 fun nw NW n4 y d4=>?_
  exact eH y S3 (d1.pre p3) d4 fun s5 h5 n5 y S5=>q _ _ _ _ y S5 (p.trans p3)
 ·obtain ⟨hs,y⟩:=aj y
  refine wpAny_AugAssign_SubscriptAny (R.E hR y S fun ov OV s1 h1 as1 n1 y S1 p1 d1=>?_) (vd (iO hs))
  refine R.E hR y S1 fun iv IV s2 h2 as2 n2 y S2 p2 d2=>?_
  refine (oP y S2 (d1.pre p2) d2 fun old OLD s3 n3 y S3 d3=>?_).1
  refine R.E hR y S3 fun v V s4 h4 as4 n4 y S4 p4 d4=>?_
  refine kZ y (d3.pre p4) d4 fun nw NW n5 y d5=>?_
  exact d7 y S4 ((d1.pre p2).pre p4) (d2.pre p4) d5 fun s6 h6 n6 y S6=>q _ _ _ _ y S6 ((p1.trans p2).trans p4)
set_option tactic.hygienic true
theorem dD (R:Snd w ρ O d r) {b:Stmt} {s:St} {k:Fl->St->Tr} {h:Heap} {n:Nat} {as:List Addr} {Q:Flow->Shared->Prop} (hR:Room A d) (y:(i9 w.params r env.scope b s k).ok ρ post) (S:SR w ρ O G env h s as)
  (q:∀fl F s' h' as' n',(k fl s').ok ρ post->SR w ρ O G env h' s' as'->aM as as'->lN ρ as' fl F->Q F ⟨h',gs,dr,n',os⟩):wpAny (model pr w) A (exec b env) Q Er ⟨h,gs,dr,n,os⟩:=by
 induction b using Stmt.casesOn <;> try exact y.elim
 ·rename_i e pos
  induction e with
  | some e=>exact wpAny_Return_some (R.E hR y S fun v V s' h' as' n' y S' p dv=>q _ _ _ _ _ _ y S' p ⟨V,rfl,dv⟩)
  | none=>exact wpAny_Return_none (q _ _ _ _ _ _ y S .refl ⟨_,rfl,rfl⟩)
 ·obtain ⟨hc,y⟩:=aj y
  apply bc;intro ng
  obtain ⟨t,et,y⟩:=af y
  apply ng;clear ng
  refine aa (ba et) ?_
  exact vk R hR (iO hc) y S fun s' h' as' n' y S' p=>q _ _ _ _ _ _ y S' p rfl
 ·exact vo R hR y S fun s' h' as' n' y S' p=>q _ _ _ _ _ _ y S' p rfl
 ·obtain ⟨he,y⟩:=aj y
  apply bc;intro ng
  obtain ⟨x,ex,y⟩:=af y
  obtain ⟨px,rfl⟩:=iz ex
  apply ng;clear ng
  refine aa (List.isEmpty_iff.mp he) ?_
  apply bc;intro ng
  obtain ⟨hs,y⟩:=aj y
  apply ng;clear ng
  refine wpAny_For (R.E hR y S fun v V s' h' as' n' y S' p dv=>?_) (dH (iO hs))
  apply bc;intro ng
  obtain ⟨io,ei,y⟩:=af y
  apply ng;clear ng
  refine oq S' dv ei fun o zw S1=>?_
  refine kA R hR (as₀:=as) q y S1 (p.trans ⟨_,rfl⟩) ?_
  refine aa (Eq.symm S'.sz) ?_; exact aY
 ·refine wpAny_If (R.T hR y S (fun zw=>rfl) fun c s' h' as' n' y S' p=>?_)
  induction c with
  | true=>exact cj R hR y S' fun fl F s'' h'' as'' n'' y S'' p' df=>q _ _ _ _ _ _ y S'' (p.trans p') df
  | false=>exact cj R hR y S' fun fl F s'' h'' as'' n'' y S'' p' df=>q _ _ _ _ _ _ y S'' (p.trans p') df
 ·obtain ⟨hc,y⟩:=aj y
  exact wpAny_Expr_any (R.E hR y S fun v V s' h' as' n' y S' p dv=>q _ _ _ _ _ _ y S' p rfl) (by unfold interactive; refine aa S.ek ?_; rfl) (iY (qy hc))
 ·exact wpAny_Pass (q _ _ _ _ _ _ y S .refl rfl)
 ·exact wpAny_Continue (q _ _ _ _ _ _ y S .refl rfl)
set_option tactic.hygienic false
theorem sQ {fv:Value} {first:List Value} {e:Expr} {rest:List Expr} {env:Env} {pos:Pos} {Q:Value->Shared->Prop} {s:Shared} (hk:keepIn (K w.params) fv=true)
  (he:starEach (e::rest) env=(false,eval e env)::starEach rest env) (hp:(backTo pos (starEach rest env)).any (·.1)=false)
  (q:wpAny (model pr w) A (spliced (backTo pos (starEach (e::rest) env))) (fun vs s₁=>(K w.params).In s₁.heap/\wpAny (model pr w) A (call fv (first++vs)) Q Er s₁) Er s) :
  wpAny (model pr w) A (callWith pos fv first (backTo pos (starEach (e::rest) env)) []) Q Er s:=by
 rw [he] at q ⊢
 exact callWith_of (P:=(K w.params).In) (by show ((false || (backTo pos (starEach rest env)).any (·.1)) || false)=false; refine aa hp ?_; rfl) (keeps_K hk) (evalArgs_plain q)
theorem ci {pos:Pos} {env:Env}:∀{args:List Expr},(args.all fun e=>!aK e)=true->(backTo pos (starEach args env)).any (·.1)=false/\(backTo pos (starEach args env)).length=args.length
 | [],_=>⟨rfl,rfl⟩
 | e::r,h=>by
  rw [List.all_cons,Bool.and_eq_true,Bool.not_eq_true'] at h
  obtain ⟨i1,i2⟩:=ci (pos:=pos) (env:=env) h.2
  refine aa (aX h.1) ?_
  exact ⟨by show (false || (backTo pos (starEach r env)).any (·.1))=false; refine aa i1 ?_; rfl,by show (backTo pos (starEach r env)).length + 1=_; refine aa i2 ?_; rfl⟩
theorem yX (R:Snd w ρ O d r) {fv:AV} {V:Value} {first:List AV} {First:List Value} {pos:Pos} {args:List Expr} {s:St} {k:AV->St->Tr} {h:Heap} {n:Nat} {as:List Addr} {Q:Value->Shared->Prop} (hR:Room A d)
  (hs:(args.all fun e=>!aK e)=true) (hkeep:m3 w.params args.length fv=true) (hfirst:(∃a,V = .ref a)\/First = [])
  (y:(m7 r env.scope args s fun vs s=>r.C fv (first++vs) s k).ok ρ post) (S:SR w ρ O G env h s as) (dv:Dn ρ as fv V) (df:All2 (Dn ρ as) first First)
  (q:∀v V s' h' as' n',(k v s').ok ρ post->SR w ρ O G env h' s' as'->aM as as'->Dn ρ as' v V->Q V ⟨h',gs,dr,n',os⟩) :
  wpAny (model pr w) A (callWith pos V First (backTo pos (starEach args env)) []) Q Er ⟨h,gs,dr,n,os⟩:=by
 have hp:=(ci (pos:=pos) (env:=env) hs).1
 have main:wpAny (model pr w) A (spliced (backTo pos (starEach args env))) (fun vs s₁=>(K w.params).In s₁.heap/\wpAny (model pr w) A (call V (First++vs)) Q Er s₁) Er ⟨h,gs,dr,n,os⟩ :=
  cQ R hR y S fun vs Vs s' h' as' n' y S' p dvs zw=>⟨S'.k,R.C hR y S'.co (dv.pre p) ((df.pre p).app dvs) fun v U s'' h'' as'' n'' e1 e2 y S'' p' du=>q _ _ _ _ _ _ y (S'.back S'' p' e1 e2) (p.trans p') du⟩
 unfold m3 at hkeep
 induction hg:fv.g? with
 | none=>rw [hg] at hkeep; exact bH hkeep
 | some v =>
  rw [hg] at hkeep
  rw [nE hg] at dv y
  have dv:V=v:=dv
  subst dv
  have nb:(∀a,V≠.ref a)->First = []:=fun z=>hfirst.elim (fun ⟨a,e⟩=>absurd e (z a)) id
  induction V using Value.casesOn <;> try exact bH hkeep
  ·have h0:=nb fun a=>nofun
   subst h0
   induction args using List.casesOn with
   | nil=>exact bH hkeep
   | cons e rest =>
    rw [List.all_cons,Bool.and_eq_true,Bool.not_eq_true'] at hs
    exact PyProof.Rows.callWith_type1 (wpAny_mono main (fun zw zw z=>z.2) fun zw zw z=>z) (aX hs.1) (ci hs.2).1
  ·have h0:=nb fun a=>nofun
   subst h0
   induction args using List.casesOn with
   | nil=>exact bH hkeep
   | cons e rest =>
    rw [List.all_cons,Bool.and_eq_true,Bool.not_eq_true'] at hs
    exact PyProof.Rows.callWith_builtin1 (wpAny_mono main (fun zw zw z=>z.2) fun zw zw z=>z) (aX hs.1) (ci hs.2).1
  ·induction args using List.casesOn with
   | nil =>
    have y:(r.C _ (first++[]) s k).ok ρ post:=y
    exact callWith_K0 (s:=⟨h,gs,dr,n,os⟩) S.k hkeep (R.C hR y S.co rfl (df.app .nil) fun v U s'' h'' as'' n'' e1 e2 y S'' p' du=>q _ _ _ _ _ _ y (S.back S'' p' e1 e2) p' du)
   | cons e rest =>
    rw [List.all_cons,Bool.and_eq_true,Bool.not_eq_true'] at hs
    exact sQ hkeep (aX hs.1) (ci hs.2).1 main
end
end
section
open PySem PySem.W PyProof.Rows PySem.Calls Builtin Builtin.ObjectAttr
section
variable {w:World} {ρ:Rho} {O:Opq} {d:Nat} {r:Rc} {post:Fl->St->Prop} {env:Env} {A:Around} {gs:Array GenState} {dr:Drawn} {os:OsState} {G:Gr} {Er:Value->Shared->Prop}
theorem ye {as:List Addr} {cl:List (Str×Nat)} (hcc:∀x i,cl.lookup x=some i->∃a,as[i]? = some a/\env.cells.lookup x=some a) {names:List (Str×NameKind)} {acc:List (Str×Nat)} {Acc:List (Str×Addr)} {res:List (Str×Nat)}
  (e:eK cl names acc=some res) (x:All2 (fun (p:Str×Nat) (q:Str×Addr)=>p.1=q.1/\as[p.2]? = some q.2) acc Acc) :
  ∃Res,All2 (fun (p:Str×Nat) (q:Str×Addr)=>p.1=q.1/\as[p.2]? = some q.2) res Res/\(forIn names Acc fun (x:Str×NameKind) cs=>if x.2 == .free then (do let c <- cellOf env x.1; pure (ForInStep.yield ((x.1,c)::cs))) else pure (ForInStep.yield cs):Sem (List (Str×Addr)))=pure Res:=by
 induction names generalizing acc Acc with
 | nil=>exact ⟨Acc,aF e▸x,rfl⟩
 | cons p r ih =>
  obtain ⟨n,k⟩:=p
  unfold eK at e
  rw [List.forIn_cons]
  by_cases hk:(k == .free)=true
  ·rw [if_pos hk] at e
   induction ei:cl.lookup n with
   | none=>rw [ei] at e; exact ap e
   | some i =>
    rw [ei] at e
    obtain ⟨a,a1,a2⟩:=hcc n i ei
    obtain ⟨Res,r1,r2⟩:=ih (Acc:=(n,a)::Acc) e (.cons ⟨rfl,a1⟩ x)
    refine ⟨Res,r1,?_⟩
    have hc:cellOf env n=pure a:=by unfold cellOf; exact aa a2 rfl
    dsimp only
    refine aa (if_pos hk) (aa hc ?_)
    simpa using r2
  ·rw [if_neg hk] at e
   obtain ⟨Res,r1,r2⟩:=ih e x
   refine ⟨Res,r1,?_⟩
   dsimp only
   refine aa (if_neg hk) ?_
   simpa using r2
theorem fG {as:List Addr} {cl res:List (Str×Nat)} {csc:Scope} (hcc:∀x i,cl.lookup x=some i->∃a,as[i]? = some a/\env.cells.lookup x=some a) (e:eK cl csc.names []=some res) :
  ∃Res,closureFor csc env=pure Res/\∀x i,res.lookup x=some i->∃a,as[i]? = some a/\Res.lookup x=some a:=by
 apply bc;intro ng
 obtain ⟨Res,r1,r2⟩:=ye hcc e .nil
 apply ng;clear ng
 refine ⟨Res,?_,fun x i ei=>?_⟩
 ·show (forIn csc.names [] (fun x cs=>if x.2 == .free then (do let c <- cellOf env x.1; pure (ForInStep.yield ((x.1,c)::cs))) else pure (ForInStep.yield cs)) >>= fun z=>pure z:Sem (List (Str×Addr)))=pure Res
  refine aa r2 ?_
  simp
 ·clear r2 e
  induction r1 with
  | nil=>exact ap ei
  | @cons a b l m h _ ih =>
   simp only [List.lookup] at ei ⊢
   refine aa (Eq.symm h.1) ?_
   induction q:x == a.1 with
   | true=>rw [q] at ei; cases ei; exact ⟨b.2,h.2,rfl⟩
   | false=>rw [q] at ei; exact ih ei
theorem SR.outX {env:Env} {h h':Heap} {s:St} {as:List Addr} (S:SR w ρ O G env h s as) (hs:Heap.SameBut env.locals h h'):Co w ρ O G h' s.ob s.pc as :=
 ⟨S.bs,fun a o e=>(hs.2 a fun q=>by rw [q,S.fL] at e; exact ap e).trans (S.kp a o e),S.og,S.sz,fun i o a e e'=>by
  obtain ⟨x,y⟩:=S.ob i o a e e'
  exact ⟨x.keep .refl fun ow x' ex=>(hs.2 a (y ow).1).trans ex,fun ow=>(y ow).2⟩,S.nd,S.pc⟩
theorem sL (R:Snd w ρ O d r) {x:Str} {px:Pos} {elt iter:Expr} {csc:Scope} {pos:Pos} {m acc:Nat} {it ac:Addr} {k:St->Tr} {RR:Result->Shared->Prop} (hR:Room A d) {as₀:List Addr}
  (q:∀s' h' as' n' ys,(k s').ok ρ post->SR w ρ O G env h' s' as'->aM as₀ as'->s'.ob[acc]? = some (.lst ys)->RR (.ok .next) ⟨h',gs,dr,n',os⟩) {nn:Nat} {s:St} {h:Heap} {n:Nat} {as:List Addr} (y:(l7 r env.scope x elt m acc k nn s).ok ρ post) (S:SR w ρ O G env h s as) (p₀:aM as₀ as)
  (hm:as[m]? = some it) (ha:as[acc]? = some ac) (hy:∃ys,s.ob[acc]? = some (.lst ys)) (hma:m≠acc) :
  codeAny (model pr w) A (.compLoop (.ListComp elt [⟨.Name x px,iter,[],0⟩] csc pos) 0 (.ref it) (.ref ac) env) RR ⟨h,gs,dr,n,os⟩:=by
 refine codeAny_compLoop_list (fun nn st=>∃s h n as,st=⟨h,gs,dr,n,os⟩/\(l7 r env.scope x elt m acc k nn s).ok ρ post/\SR w ρ O G env h s as/\aM as₀ as/\as[m]? = some it/\as[acc]? = some ac/\∃ys,s.ob[acc]? = some (.lst ys)) (fun nn st I=>?_) nn ⟨s,h,n,as,rfl,y,S,p₀,hm,ha,hy⟩
 apply bc;intro ng
 obtain ⟨s,h,n,as,rfl,y,S,p₀,hm,ha,ys,hy⟩:=I
 apply ng;clear ng
 induction nn using Nat.casesOn with
 | zero=>exact y.elim
 | succ nn =>
  apply bc;intro ng
  obtain ⟨p,ep,y⟩:=af y
  apply ng;clear ng
  refine oO hR.hd S hm ep (fun v V h' ev dv S=>?_) fun h' ev S=>?_
  ·rw [ev] at y
   refine wpAny_assign_Name (aW y S dv fun s2 h2 n2 y S2=>?_)
   refine R.E hR y S2 fun u U s3 h3 as3 n3 y S3 p3 du=>?_
   apply bc;intro ng
   obtain ⟨ys',ey,y⟩:=af y
   obtain ⟨hl,y⟩:=aj y
   have hl:=of_decide_eq_true hl
   obtain ⟨o,ey,eo⟩:=az ey
   rw [cB eo] at ey
   obtain ⟨ac',b1,b2,b4⟩:=S3.get ey
   rw [p3.get ha] at b1
   rw [<- aF b1] at b2
   obtain ⟨Vs,b2,b3⟩:=b2
   apply ng;clear ng
   have l:h3.IsList ac Vs.toArray:=b3
   refine wpAny_list_append (s:=⟨h3,gs,dr,n3,os⟩) l (fun h4 l4 hs=>?_) (by have:=b2.len; simp; refine aa sizeLine_eq ?_; omega)
   have l4':h4.IsList ac (Vs++[U]).toArray:=by
    have z:Vs.toArray.push U=(Vs++[U]).toArray:=by simp
    rw [z] at l4; exact l4
   exact ⟨nn,Nat.lt_succ_self _,_,_,_,_,rfl,y,S3.obj (o':=.lst (ys'++[u])) ey rfl (p3.get ha) hs ⟨Vs++[U],b2.app (.cons du .nil),l4'⟩,p₀.trans p3,p3.get hm,p3.get ha,_,List.getElem?_set_self (List.getElem?_eq_some_iff.mp ey).1⟩
  ·rw [ev] at y
   exact q _ _ _ _ ys y S p₀ (by refine aa (List.getElem?_set_ne hma) ?_; exact hy)
theorem Co.enterC {h h₁:Heap} {ob:List AO} {pc:List (CE×Bool)} {as:List Addr} {ls:List (Str×AV)} {cl:List (Str×Nat)} {f:Str->Option Value} (S:Co w ρ O G h ob pc as) (k:h.StaysIn h₁) (eL:env.locals=h.objs.size) (eg:env.globals=mainGlobals) (eb:env.builtins=builtinsNs)
  (ek:env.scope.kind = .function) (hns:h₁.Ns h.objs.size f) (hl:∀x v,ls.lookup x=some v->∃V,f x=some V/\Dn ρ as v V) (hcc:∀x i,cl.lookup x=some i->∃a,as[i]? = some a/\env.cells.lookup x=some a):SR w ρ O G env h₁ ⟨ls,cl,ob,pc⟩ as:=by
 refine ⟨S.bs,fun a o e=>k _ _ (S.kp a o e),S.og,?_,eg,eb,ek,⟨_,eL▸hns,hl⟩,hcc,S.sz,fun i o a e e'=>?_,S.nd,S.pc⟩
 ·refine aa eL ?_
  induction q:G h.objs.size with
  | none=>rfl
  | some x=>exact absurd (Heap.lt_size (S.kp _ _ q)) (Nat.lt_irrefl _)
 ·obtain ⟨x,y⟩:=S.ob i o a e e'
  refine ⟨x.keep .refl (fun zw x ex=>k _ _ ex),fun ow=>⟨?_,y ow⟩⟩
  refine aa eL ?_; exact Nat.ne_of_lt (x.lt ow)
theorem eO {csc:Scope} {x:Str} (h:cW csc x=true):(∀y∈csc.names,y.2≠.cell)/\csc.kind = .function/\(∀y∈csc.names,y.2 = .local->csc.names.lookup y.1=some .local)/\csc.names.lookup x=some .local:=by
 unfold cW at h
 simp only [Bool.and_eq_true,List.all_eq_true,decide_eq_true_eq,beq_iff_eq,Bool.or_eq_true,Bool.not_eq_true',beq_eq_false_iff_ne] at h
 apply bc;intro ng
 obtain ⟨⟨⟨a,b⟩,c⟩,d⟩:=h
 apply ng;clear ng
 exact ⟨a,b,fun y m e=>(c y m).resolve_left fun z=>z e,d⟩
theorem pZ (R:Snd w ρ O d r) (hR:Room A d) {x:Str} {px:Pos} {elt iter:Expr} {csc:Scope} {pos:Pos} {cl:List (Str×Nat)} {Res:List (Str×Addr)} {it:Addr} {io:AO} {s:St} {k:AV->St->Tr} {h h1:Heap} {n:Nat} {as:List Addr} {Q:Value->Shared->Prop}
  (ck:(∀y∈csc.names,y.2≠.cell)/\csc.kind = .function/\(∀y∈csc.names,y.2 = .local->csc.names.lookup y.1=some .local)/\csc.names.lookup x=some .local)
  (hcc:∀x i,cl.lookup x=some i->∃a,as[i]? = some a/\Res.lookup x=some a) (S:SR w ρ O G env h s as) (S1:SR w ρ O G env h1 { s with ob:=s.ob++[io] } (as++[it]))
  (y:(l7 r (bM csc env.scope) x elt s.ob.length (s.ob.length + 1) (fun s'=>k (.loc (s.ob.length + 1)) { s' with ls:=s.ls,cl:=s.cl }) 40 ⟨[],cl,s.ob++[io]++[.lst []],s.pc⟩).ok ρ post)
  (hit:∀{E:Value->Shared->Prop} {Q:Value->Shared->Prop} {h2:Heap},h1.StaysIn h2->Q (.ref it) ⟨h2,gs,dr,n,os⟩->wpAny (model pr w) A (pyIter (.ref it)) Q E ⟨h2,gs,dr,n,os⟩)
  (q:∀v V s' h' as' n',(k v s').ok ρ post->SR w ρ O G env h' s' as'->aM as as'->Dn ρ as' v V->Q V ⟨h',gs,dr,n',os⟩) :
  wpAny (model pr w) A (newList []) (fun acc s₃=>wpAny (model pr w) A (newFunctionEnv csc env.globals Res [] env.qual none .none (some env)) (fun cenv s₄ =>
    codeAny (model pr w) A (.compStart (.ListComp elt [⟨.Name x px,iter,[],0⟩] csc pos) 0 (.ref it) acc { cenv with scope:=relabel csc env }) (compPost (model pr w) A Er none Q acc cenv.locals) s₄) Er s₃) Er ⟨h1,gs,dr,n,os⟩:=by
 apply bc;intro ng
 obtain ⟨c1,c2,c3,c4⟩:=ck
 apply ng;clear ng
 have S2:=S1.push { cls:=.type "list",data:=.seq #[] } (ao:=.lst []) ⟨[],.nil,_,Heap.get?_push_size _ rfl,rfl,_,rfl⟩
 refine wpAny_newObj_type (s:=⟨h1,gs,dr,n,os⟩) ?_ (Nat.zero_le _)
 generalize hH:h1.push { cls:=.type "list",data:=.seq #[] }=H2 at S2
 have kH:h1.StaysIn H2:=hH▸fun zw zw e=>Heap.get?_push_of_some _ e
 refine wpAny_newFunctionEnv (s:=⟨H2,gs,dr,n,os⟩) c1 (by intro y hy; simp at hy) (fun h₁ hns hsb=>?_) c2
 dsimp only at hns hsb
 have kk:H2.StaysIn h₁:=fun b o e=>hsb.extBut b o (Nat.ne_of_lt (Heap.lt_size e)) (Heap.get?_push_of_some _ e)
 have SC:SR w ρ O (iJ G H2 env.locals) (compEnvC csc Res H2.objs.size env) h₁ ⟨[],cl,s.ob++[io]++[.lst []],s.pc⟩ (as++[it]++[h1.objs.size]) :=
  S2.co.enterC kk rfl S.eg S.eb c2 hns (fun x v e=>by (exact ap e)) fun x i e=>by
   apply bc;intro ng
   obtain ⟨a,a1,a2⟩:=hcc x i e
   apply ng;clear ng
   exact ⟨a,aM.get ⟨_,List.append_assoc ..⟩ a1,a2⟩
 have lz:=S.sz
 have loop:codeAny (model pr w) A (.compLoop (.ListComp elt [⟨.Name x px,iter,[],0⟩] csc pos) 0 (.ref it) (.ref h1.objs.size) (compEnvC csc Res H2.objs.size env)) (compPost (model pr w) A Er none Q (.ref h1.objs.size) H2.objs.size) ⟨h₁,gs,dr,n,os⟩:=by
  refine sL (env:=compEnvC csc Res H2.objs.size env) R hR (as₀:=as++[it]++[h1.objs.size]) (fun s' h' as' n' ys y S3 p3 hys=>?_) y SC .refl (by rw [<- lz,List.append_assoc,List.getElem?_append_right (by (first | lia | omega))]; simp) (by rw [<- lz,List.append_assoc,List.getElem?_append_right (by (first | lia | omega))]; simp)
   ⟨[],by rw [List.append_assoc,List.getElem?_append_right (by (first | lia | omega))]; simp⟩ (by (first | lia | omega))
  apply bc;intro ng
  obtain ⟨f,N,-⟩:=S3.lc
  apply ng;clear ng
  refine ⟨f,N,fun h3 hs=>?_⟩
  refine q _ _ _ _ _ _ y (S2.back (s':={ s' with ls:=s.ls,cl:=s.cl }) (S3.outX hs) p3 rfl rfl) (aM.trans ⟨_,List.append_assoc ..⟩ p3) ⟨h1.objs.size,p3.get ?_,rfl⟩
  rw [<- lz,List.append_assoc,List.getElem?_append_right (by (first | lia | omega))]; simp
 exact codeAny_compStart_list loop (hit (fun b o e=>kk _ _ (kH _ _ e)) loop)
end
end
section
open PySem PySem.W PyProof.Rows PySem.Calls Builtin Builtin.ObjectAttr
section
variable {w:World} {ρ:Rho} {O:Opq} {d:Nat} {r:Rc} {post:Fl->St->Prop} {env:Env} {A:Around} {gs:Array GenState} {dr:Drawn} {os:OsState} {G:Gr} {Er:Value->Shared->Prop}
theorem xF {e:Expr} {q:Expr×Str×Pos} (h:oi e=some q):e = .Attribute q.1 q.2.1 q.2.2:=by
 induction e using Expr.casesOn <;> first | exact congrArg (fun q:Expr×Str×Pos=>Expr.Attribute q.1 q.2.1 q.2.2) (aF h) | exact ap h
theorem gC {func:Expr} {args:List Expr} {pos:Pos} {env:Env} (h:oi func=none):eval (.Call func args [] pos) env=(do callWith pos (<- eval func env) [] (backTo pos (starEach args env)) (backToKw pos (keywordEach [] env))):=by
 induction func using Expr.casesOn <;> first | rfl | exact ap h.symm
set_option tactic.hygienic true
theorem mV {i:Nat} {x:Addr} {vs:List AV} {Vs:List Value} {s:St} {k:AV->St->Tr} {h:Heap} {n:Nat} {as:List Addr} {Q:Value->Shared->Prop} (y:(pC i vs s k).ok ρ post) (S:SR w ρ O G env h s as) (e':as[i]? = some x) (dv:All2 (Dn ρ as) vs Vs)
  (q:∀s' h' n',(k .none s').ok ρ post->SR w ρ O G env h' s' as->Q .none ⟨h',gs,dr,n',os⟩):wpAny (model pr w) A (call (.builtin "list.append") (.ref x::Vs)) Q Er ⟨h,gs,dr,n,os⟩:=by
 apply bc;intro ng
 obtain ⟨r,e,y⟩:=af y
 obtain ⟨em,ev⟩:=ah e
 apply ng;clear ng
 rw [ba ev] at dv
 cases dv; rename_i V1 _ d1 dn; cases dn
 apply bc;intro ng
 obtain ⟨x',a1,a2,-⟩:=S.get em
 apply ng;clear ng
 rw [e'] at a1
 rw [<- aF a1] at a2
 have app:∀{Us:List Value} {o':AO},At h.get? x (.pl Us)->Us.length<=1000->r.1.own=true->(k .none { s with ob:=s.ob.set i o' }).ok ρ post->(∀h':Heap,At h'.get? x (.pl (Us++[V1]))->aC ρ O as h' x o')->
   wpAny (model pr w) A (call (.builtin "list.append") [.ref x,V1]) Q Er ⟨h,gs,dr,n,os⟩:=fun {Us o'} a3 hz ow y z=>by
  have l:h.PlainList x Us.toArray:=let ⟨o,e1,n1,e2⟩:=a3; ⟨n1,e2▸e1⟩
  refine wpAny_list_append_plain (s:=⟨h,gs,dr,n,os⟩) l (fun h' l' hs=>?_) (by simp; refine aa sizeLine_eq ?_; (first | lia | omega))
  have l2:At h'.get? x (.pl (Us++[V1])):=by
   apply bc;intro ng
   obtain ⟨n2,e2⟩:=l'
   apply ng;clear ng
   exact ⟨_,e2,n2,by simp⟩
  exact q _ _ _ y (S.obj em ow e' hs (z h' l2))
 apply bc;intro ng
 rcases cE y with ⟨us,eu,y⟩ | ⟨-,y⟩ <;> refine ng ?_ <;> clear ng
 ·rw [kK eu] at a2
  apply bc;intro ng
  obtain ⟨Us,a2,a3⟩:=a2
  obtain ⟨hl,y⟩:=aj y
  apply ng;clear ng
  exact app a3 (by have ll:=a2.len; have hl:=of_decide_eq_true hl; (first | lia | omega)) (by refine aa (kK eu) ?_; rfl) y fun h' l2=>⟨_,a2.app (.cons d1 .nil),l2⟩
 ·obtain ⟨z,ez,y⟩:=af y
  apply bc;intro ng
  obtain ⟨e1,e2⟩:=ah ez
  rw [ph e1] at a2
  rw [cP e2] at d1
  obtain ⟨Us,a2,a3⟩:=a2
  obtain ⟨t,rfl⟩:=d1
  obtain ⟨hz,y⟩:=y
  apply ng;clear ng
  have hz:(ρ.l z.1.1).length + z.1.2.length<=1000:=hz
  refine app a3 (by have ll:=a2.length; simp at ll; (first | lia | omega)) (by refine aa (ph e1) ?_; rfl) y fun h' l2=>⟨_,?_,l2⟩
  rw [List.map_append,<- List.append_assoc]
  exact a2.append (.cons _ _ .nil)
set_option tactic.hygienic false
section
variable {s:St} {k:AV->St->Tr} {h:Heap} {n:Nat} {as:List Addr} {Q:Value->Shared->Prop}
theorem uh (R:Snd w ρ O d r) {op:BoolOp} {vs:List Expr} {pos:Pos} (hR:Room A d) (y:(yW r env.scope op vs pos s k).ok ρ post) (S:SR w ρ O G env h s as)
  (q:∀v V s' h' as' n',(k v s').ok ρ post->SR w ρ O G env h' s' as'->aM as as'->Dn ρ as' v V->Q V ⟨h',gs,dr,n',os⟩):wpAny (model pr w) A (eval (.BoolOp op vs pos) env) Q Er ⟨h,gs,dr,n,os⟩:=by
 induction vs using List.casesOn with
 | nil=>exact y.elim
 | cons a rest =>
  induction rest using List.casesOn with
  | nil=>exact PyProof.Rows.BoolOp_one (R.E hR y S q)
  | cons b rest =>
   cases op with
   | And =>
    refine PyProof.Rows.BoolOp_and (R.E hR y S fun v V s' h' as' n' y S' p dv=>?_)
    refine ig y S' dv fun c s3 n3 y S3=>?_
    induction c with
    | true=>exact R.E hR y S3 fun v V s' h' as' n' y S' p' dv=>q _ _ _ _ _ _ y S' (p.trans p') dv
    | false=>exact q _ _ _ _ _ _ y S3 p dv
   | Or =>
    refine PyProof.Rows.BoolOp_or (R.E hR y S fun v V s' h' as' n' y S' p dv=>?_)
    refine ig y S' dv fun c s3 n3 y S3=>?_
    induction c with
    | false=>exact R.E hR y S3 fun v V s' h' as' n' y S' p' dv=>q _ _ _ _ _ _ y S' (p.trans p') dv
    | true=>exact q _ _ _ _ _ _ y S3 p dv
theorem qu (R:Snd w ρ O d r) {a:Expr} {ops:List CmpOp} {cs:List Expr} {pos:Pos} (hR:Room A d) (y:(r7 r env.scope a ops cs s k).ok ρ post) (S:SR w ρ O G env h s as)
  (q:∀v V s' h' as' n',(k v s').ok ρ post->SR w ρ O G env h' s' as'->aM as as'->Dn ρ as' v V->Q V ⟨h',gs,dr,n',os⟩):wpAny (model pr w) A (eval (.Compare a ops cs pos) env) Q Er ⟨h,gs,dr,n,os⟩:=by
 have hu:A.units < cLine:=by have:=hR.un; (first | lia | omega)
 apply bc;intro ng
 rcases cE y with ⟨z,e,y⟩ | ⟨-,y⟩ <;> refine ng ?_ <;> clear ng
 ·obtain ⟨e1,e2⟩:=ah e
  refine aa (ba e1) (aa (ba e2) ?_)
  apply bc;intro ng
  rcases cG y with ⟨-,y⟩ | ⟨hm,y⟩ <;> refine ng ?_ <;> clear ng
  ·exact y.elim
  refine wpAny_Compare1 (R.E hR y S fun v V s' h' as' n' y S' p dv=>?_) hm
  refine R.E hR y S' fun u U s'' h'' as'' n'' y S'' p' du=>?_
  exact dI hu y S'' (dv.pre p') du fun c s3 n3 y S3=>q _ _ _ _ _ _ y S3 (p.trans p') rfl
 ·obtain ⟨z,e,y⟩:=af y
  apply bc;intro ng
  obtain ⟨e1,e2⟩:=ah e
  apply ng;clear ng
  refine aa (cq e1) (aa (cq e2) ?_)
  apply bc;intro ng
  rcases cG y with ⟨-,y⟩ | ⟨hm,y⟩ <;> refine ng ?_ <;> clear ng
  ·exact y.elim
  refine PyProof.Rows.Compare_chain (R.E hR y S fun v V s' h' as' n' y S' p dv=>?_) hm
  refine PyProof.Rows.chain_link (R.E hR y S' fun u U s'' h'' as'' n'' y S'' p' du=>?_)
  refine dI hu y S'' (dv.pre p') du fun c s3 n3 y S3=>wpAny_truthy_bool ?_
  induction c with
  | true =>
   refine PyProof.Rows.chain_last (R.E hR y S3 fun z Z s4 h4 as4 n4 y S4 p4 dz=>?_)
   exact dI hu y S4 (du.pre p4) dz fun c s3 n3 y S3=>q _ _ _ _ _ _ y S3 ((p.trans p').trans p4) rfl
  | false=>exact q _ _ _ _ _ _ y S3 (p.trans p') rfl
theorem oQ {P:Params} {C:Addr} {name:Str} {f:Addr} (e:((findIn (K P) (.ref C) name).bind id).bind eT = some f):findIn (K P) (.ref C) name=some (some (.ref f)):=by
 apply bc;intro ng
 obtain ⟨v,e,e3⟩:=az e
 obtain ⟨u,e1,e2⟩:=az e
 apply ng;clear ng
 exact aa e1 (aa (show u=some v from e2) (aa (rK e3) rfl))
theorem tV (R:Snd w ρ O d r) {o:Expr} {name:Str} {apos:Pos} {args:List Expr} {pos:Pos} (hR:Room A d) (y:(yR w.params r env.scope o name apos args pos s k).ok ρ post) (S:SR w ρ O G env h s as)
  (q:∀v V s' h' as' n',(k v s').ok ρ post->SR w ρ O G env h' s' as'->aM as as'->Dn ρ as' v V->Q V ⟨h',gs,dr,n',os⟩):wpAny (model pr w) A (eval (.Call (.Attribute o name apos) args [] pos) env) Q Er ⟨h,gs,dr,n,os⟩:=by
 apply bc;intro ng
 obtain ⟨hc,y⟩:=aj y
 apply ng;clear ng
 have c4:=au hc
 have c3:=iO (au (ag hc))
 have c2:=of_decide_eq_true (au (ag (ag hc)))
 have c1:=ag (ag (ag hc))
 clear hc
 have few:methodCallForm (args.length + 0) (backTo pos (starEach args env)) []=true:=by
  apply bc;intro ng
  obtain ⟨z1,z2⟩:=ci (pos:=pos) (env:=env) c4
  apply ng;clear ng
  unfold methodCallForm
  rw [show (List.all (backTo pos (starEach args env)) fun x=>!x.1)=true from by
   refine aa List.all_eq_not_any_not ?_; simp only [Bool.not_not]; refine aa z1 ?_; rfl]
  simp; (first | lia | omega)
 have mp:methodCallPos true o env apos pos=pure pos:=by unfold methodCallPos; refine aa c1 ?_; simp
 show wpAny (model pr w) A (do
  let ov <- attributeBase o name env (eval o env)
  standAt apos.atName
  methodCall o name apos pos env ov (args.length + 0) (backTo pos (starEach args env)) []) Q Er _
 refine aa (eQ c3) ?_
 refine wpAny_bind (R.E hR y S fun v V s' h' as' n' y S' p dv=>wpAny_bind (wpAny_standAt ?_))
 unfold methodCall
 refine aa few ?_
 apply bc;intro ng
 obtain ⟨i,ei,y⟩:=af y
 rw [bN ei] at dv
 obtain ⟨x,e',rfl⟩:=dv
 apply ng;clear ng
 apply bc;intro ng
 rcases cE y with ⟨z,en,y⟩ | ⟨-,y⟩ <;> refine ng ?_ <;> clear ng
 ·obtain ⟨dx,Fs,o',a2,-,a4,N,B,I⟩:=ki S' e' en
  apply bc;intro ng
  obtain ⟨hp,y⟩:=aj y
  have pl:=iE (ag hp)
  have zz:=bn B (n:=name)
  rw [Option.isNone_iff_eq_none.mp (au hp)] at zz
  obtain ⟨fm,hf,y⟩:=af y
  obtain ⟨ht,y⟩:=aj y
  apply ng;clear ng
  refine wpAny_bind (wpAny_holding ?_)
  show wpAny (model pr w) A (getMethod (.ref x) name _) _ Er _
  refine method_fn (s:=⟨h',gs,dr,n',os⟩) S'.k I pl.ga pl.gt (oQ hf) (aD (ag ht)) (by show (lookIn name o').map (·.isSome)=_; rw [gN N,zz]; rfl) ?_
  refine wpAny_bind (wpAny_of_eq mp ?_)
  exact yX (fv:=.glb (.ref fm)) (first:=[.loc i]) (First:=[.ref x]) R hR c4 (au ht) (.inl ⟨_,rfl⟩) y S' rfl (.cons ⟨_,e',rfl⟩ .nil) fun v V s3 h3 as3 n3 y S3 p3 dv=>q _ _ _ _ _ _ y S3 (p.trans p3) dv
 ·obtain ⟨hnm,y2⟩:=aj y
  clear y
  have hn1:=aD (ag (ag hnm))
  apply bc;intro ng
  subst hn1
  obtain ⟨e,rfl⟩:=List.length_eq_one_iff.mp (of_decide_eq_true (au (ag hnm)))
  have c4':aK e=false:=by simpa using c4
  obtain ⟨o1,z1,z2,z3⟩:∃o1,h'.get? x=some o1/\o1.cls = .type "list"/\o1.dict=none:=by
   have hnm:=au hnm
   induction em:s'.ob[i]? with
   | none=>rw [em] at hnm; exact bH hnm
   | some ao =>
    rw [em] at hnm
    have hnm:(ao.pl?.isSome || ao.il?.isSome)=true:=hnm
    obtain ⟨x2,a1,a2,-⟩:=S'.get em
    rw [e'] at a1
    rw [<- aF a1] at a2
    cases ao <;> try exact bH hnm
    ·obtain ⟨Us,a2,o1,a3,n1,a4⟩:=a2
     exact ⟨o1,a3,by exact aa a4 rfl,by exact aa a4 rfl⟩
    ·obtain ⟨Us,a2,o1,a3,n1,a4⟩:=a2
     exact ⟨o1,a3,by exact aa a4 rfl,by exact aa a4 rfl⟩
  apply ng;clear ng
  refine wpAny_bind (wpAny_holding (Calls.getMethod_list_append (s:=⟨h',gs,dr,n',os⟩) z1 z2 z3 ?_))
  refine wpAny_bind (wpAny_of_eq mp ?_)
  have ev:backTo pos (starEach [e] env)=(false,eval e env)::backTo pos (starEach [] env):=by refine aa (aX c4') ?_; rfl
  refine aa ev ?_
  refine Calls.callWith_builtin rfl (Calls.evalArgs_plain ?_)
  refine aa (Eq.symm ev) ?_
  exact cQ R hR y2 S' fun vs Vs s'' h'' as'' n'' y S'' p' dvs zw=>mV y S'' (p'.get e') dvs fun s3 h3 n3 y S3=>q _ _ _ _ _ _ y S3 (p.trans p') rfl
theorem qE (R:Snd w ρ O d r) {f:Expr} {args:List Expr} {pos:Pos} (hR:Room A d) (hf:oi f=none) (y:(uE w.params r env.scope f args s k).ok ρ post) (S:SR w ρ O G env h s as)
  (q:∀v V s' h' as' n',(k v s').ok ρ post->SR w ρ O G env h' s' as'->aM as as'->Dn ρ as' v V->Q V ⟨h',gs,dr,n',os⟩):wpAny (model pr w) A (eval (.Call f args [] pos) env) Q Er ⟨h,gs,dr,n,os⟩:=by
 obtain ⟨hc,y⟩:=aj y
 refine Call_ (R.E hR y S fun v V s' h' as' n' y S' p dv=>?_) (gC hf)
 obtain ⟨hkeep,y⟩:=aj y
 exact yX (first:=[]) (First:=[]) R hR (au hc) hkeep (.inr rfl) y S' dv .nil fun v V s3 h3 as3 n3 y S3 p3 dv=>q _ _ _ _ _ _ y S3 (p.trans p3) dv
set_option tactic.hygienic true
theorem wh {i u:Expr} (h:zx i=some u):∃p,i = .Slice none (some u) none p:=by
 induction i using Expr.casesOn <;> try exact ap h
 rename_i a b c p
 induction a with
 | some _=>exact ap h
 | none=>induction c with | some _=>exact ap h | none=>exact ⟨p,congrArg (fun b=>Expr.Slice none b none p) h⟩
set_option tactic.hygienic false
theorem ur {ov uv:AV} {V U:Value} {x z:Expr} (y:(zb ov uv s k).ok ρ post) (S:SR w ρ O G env h s as) (d:Dn ρ as ov V) (d':Dn ρ as uv U) {p:Pos}
  (q:∀v V s' h' as' n',(k v s').ok ρ post->SR w ρ O G env h' s' as'->aM as as'->Dn ρ as' v V->Q V ⟨h',gs,dr,n',os⟩) :
  wpAny (model pr w) A (subscriptTail x (.Slice none (some z) none p) V (.ref h.objs.size)) Q Er ⟨h.push { cls:=.type "slice",data:=.fields #[.none,U,.none] },gs,dr,n,os⟩:=by
 apply bc;intro ng
 obtain ⟨r,er,y⟩:=af y
 obtain ⟨e1,e2⟩:=ah er
 obtain ⟨a,Vs,rfl,b2,b3⟩:=eA S.hat e1 d
 rw [cP e2] at d'
 obtain ⟨t,rfl⟩:=d'
 have hl:h.IsList a Vs.toArray:=b3
 have hlen:=b2.len
 obtain ⟨hz,y⟩:=aj y
 apply ng;clear ng
 have hz:=of_decide_eq_true hz
 refine is S y fun m s3 hm ei y S3=>?_
 have hm:=hm.2
 have hp:(h.push { cls:=.type "slice",data:=.fields #[.none,.int (r.2.den ρ) t,.none] }).IsList a Vs.toArray:=hl.push _
 refine tail_any (ops:=[.ref h.objs.size,.ref a]) (T:="list") (s:=⟨h.push _,gs,dr,n,os⟩) (Heap.IsList.typeIs (s:=⟨h.push _,gs,dr,n,os⟩) hp) list_getitem_lookup ?_ rfl
 refine wpAny_getItem_list_slice (s:=⟨h.push _,gs,dr,n,os⟩) hp (Heap.IsSliceOf.new ..) .none (.int _ _) .none (by simp) ?_ (by simp; refine aa sizeLine_eq ?_; (first | lia | omega))
 refine aa ei (aa (slicePick_upto _ m (by simp; (first | lia | omega))) ?_)
 have S4:=(S3.stay (h':=h.push { cls:=.type "slice",data:=.fields #[.none,.int (r.2.den ρ) t,.none] }) fun zw zw e=>Heap.get?_push_of_some _ e).push { cls:=.type "list",data:=.seq (Vs.toArray.toList.take m).toArray } (ao:=.lst (r.1.take m)) ⟨Vs.take m,(b2.take m).mono fun zw zw z=>z.pre ⟨_,rfl⟩,_,Heap.get?_push_size _ rfl,rfl,_,rfl⟩
 rw [ei] at S4
 exact q (.loc s3.ob.length) _ _ _ _ _ y S4 ⟨_,rfl⟩ ⟨_,by refine aa (Eq.symm S3.sz) ?_; exact aY,rfl⟩
theorem wZ {gs:List Comprehension} {g:Str×Expr} (h:za gs=some g):∃p,gs = [⟨.Name g.1 p,g.2,[],0⟩]:=by
 induction gs using List.casesOn with
 | nil=>exact ap h
 | cons c r =>
  induction r using List.casesOn with
  | cons _ _=>exact ap h
  | nil =>
   apply bc;intro ng
   obtain ⟨t,it,ifs,ia⟩:=c
   obtain ⟨h0,h⟩:=cU h
   obtain ⟨x,e1,e2⟩:=gU h
   obtain ⟨p,rfl⟩:=iz e1
   apply ng;clear ng
   subst e2
   refine ⟨p,?_⟩
   exact aa (show ifs = [] from List.isEmpty_iff.mp (ag h0)) (aa (show ia=0 from aD (au h0)) rfl)
theorem Al (R:Snd w ρ O d r) {elt:Expr} {x:Str} {px:Pos} {iter:Expr} {csc:Scope} {pos:Pos} (hR:Room A d) (y:(Md r env.scope elt x iter csc s k).ok ρ post) (S:SR w ρ O G env h s as)
  (q:∀v V s' h' as' n',(k v s').ok ρ post->SR w ρ O G env h' s' as'->aM as as'->Dn ρ as' v V->Q V ⟨h',gs,dr,n',os⟩):wpAny (model pr w) A (eval (.ListComp elt [⟨.Name x px,iter,[],0⟩] csc pos) env) Q Er ⟨h,gs,dr,n,os⟩:=by
 apply bc;intro ng
 obtain ⟨hc,y⟩:=aj y
 have ck:=eO (au hc)
 obtain ⟨cl,hcl,y⟩:=af y
 obtain ⟨Res,r1,r2⟩:=fG S.cc hcl
 apply ng;clear ng
 rw [eval_ListComp]
 refine wpAny_comprehension_free (use:=none) rfl (dH (iO (ag hc))) r1 ck.2.1 ck.2.2.1 (R.E hR y S fun v V s' h' as' n' y S' p dv=>?_)
 apply bc;intro ng
 obtain ⟨io,ei,y⟩:=af y
 apply ng;clear ng
 refine oq S' dv ei fun o hit S1=>?_
 exact pZ R hR ck (fun x i e=>let ⟨a,a1,a2⟩:=r2 x i e; ⟨a,p.get a1,a2⟩) S' S1 y hit fun v V s3 h3 as3 n3 y S3 p3 dv=>q _ _ _ _ _ _ y S3 (p.trans p3) dv
set_option tactic.hygienic true
theorem iS (R:Snd w ρ O d r) {e:Expr} (hR:Room A d) (y:(oF w.params r env.scope e s k).ok ρ post) (S:SR w ρ O G env h s as)
  (q:∀v V s' h' as' n',(k v s').ok ρ post->SR w ρ O G env h' s' as'->aM as as'->Dn ρ as' v V->Q V ⟨h',gs,dr,n',os⟩):wpAny (model pr w) A (eval e env) Q Er ⟨h,gs,dr,n,os⟩:=by
 induction e using Expr.casesOn <;> try exact y.elim
 ·exact uh R hR y S q
 ·refine wpAny_BinOp (R.E hR y S fun v V s' h' as' n' y S' p dv=>?_)
  refine R.E hR y S' fun u U s'' h'' as'' n'' y S'' p' du=>?_
  exact ir y S'' (dv.pre p') du fun v V s3 h3 as3 n3 y S3 p3 dv=>q _ _ _ _ _ _ y S3 ((p.trans p').trans p3) dv
 ·rename_i op a pos
  refine wpAny_UnaryOp (R.E hR y S fun v V s' h' as' n' y S' p dv=>?_)
  cases op <;> try exact y.elim
  ·have y:(qD v s' fun b s=>k (.bool (!b)) s).ok ρ post:=y
   unfold unaryOp
   refine wpAny_holding (wpAny_bind (ig y S' dv fun c s3 n3 y S3=>wpAny_pure ?_))
   exact q _ _ _ _ _ _ y S3 p rfl
  ·obtain ⟨ie,ei,y⟩:=af y
   rw [cP ei] at dv
   obtain ⟨t,rfl⟩:=dv
   exact F7 fun t n'=>q _ _ _ _ _ _ y S' p ⟨t,by exact aa si rfl⟩
 ·refine wpAny_IfExp (R.T hR y S (fun zw=>rfl) fun c s' h' as' n' y S' p=>?_)
  induction c with
  | true=>exact R.E hR y S' fun v V s3 h' as' n' y S' p' dv=>q _ _ _ _ _ _ y S' (p.trans p') dv
  | false=>exact R.E hR y S' fun v V s3 h' as' n' y S' p' dv=>q _ _ _ _ _ _ y S' (p.trans p') dv
 ·obtain ⟨g,eg,y⟩:=af y
  obtain ⟨p,rfl⟩:=wZ eg
  exact Al R hR y S q
 ·exact qu R hR y S q
 ·obtain ⟨hk,y⟩:=aj y
  refine aa (List.isEmpty_iff.mp hk) ?_
  rcases cE y with ⟨z,ez,y⟩ | ⟨ez,y⟩
  ·refine aa (xF ez) ?_; exact tV R hR y S q
  ·exact qE R hR ez y S q
 ·rename_i c k' pos
  cases c <;> try exact y.elim
  ·exact wpAny_Constant_none (q _ _ _ _ _ _ y S .refl rfl)
  ·exact wpAny_Constant_bool (q _ _ _ _ _ _ y S .refl rfl)
  ·exact DT fun t n'=>q _ _ _ _ _ _ y S .refl ⟨t,rfl⟩
  ·exact Fu fun t n'=>q _ _ _ _ _ _ y S .refl ⟨t,rfl⟩
 ·obtain ⟨hc,y⟩:=aj y
  rw [arm_eval_Attribute,eQ (iO hc)]
  refine wpAny_bind (R.E hR y S fun v V s' h' as' n' y S' p dv=>wpAny_bind (wpAny_standAt (wpAny_bind (wpAny_holding ?_))))
  refine i7 y S' dv fun u U n3 y du=>wpAny_bind (wpAny_letTemporaryGo (wpAny_pure ?_))
  exact q _ _ _ _ _ _ y S' p du
 ·rcases cE y with ⟨u,eu,y⟩ | ⟨-,y⟩
  ·obtain ⟨p,rfl⟩:=wh eu
   refine Subscript_ (R.E hR y S fun v V s' h' as' n' y S' p dv=>?_)
   refine wpAny_Slice ?_
   rw [evalPart_none,evalPart_some]
   refine wpAny_pure (R.E hR y S' fun uv U s2 h2 as2 n2 y S2 p2 du=>?_)
   refine wpAny_pure ?_
   exact ur y S2 (dv.pre p2) du fun v V s3 h3 as3 n3 y S3 p3 dv=>q _ _ _ _ _ _ y S3 ((p.trans p2).trans p3) dv
  ·obtain ⟨hs,y⟩:=aj y
   refine Subscript_ (R.E hR y S fun v V s' h' as' n' y S' p dv=>?_)
   refine R.E hR y S' fun u U s'' h'' as'' n'' y S'' p' du=>?_
   exact mn (iO hs) y S'' (dv.pre p') du fun v V s3 n3 y S3 dv=>q _ _ _ _ _ _ y S3 (p.trans p') dv
 ·exact rN y S fun v V y dv=>q _ _ _ _ _ _ y S .refl dv
 ·obtain ⟨hl,y⟩:=aj y
  have hl:=of_decide_eq_true hl
  refine List_ (cQ R hR y S fun vs Vs s' h' as' n' y S' p dv hlen=>?_)
  exact Ab (by (first | lia | omega)) y S' dv fun v V s3 h3 as3 n3 y S3 p3 dv=>q _ _ _ _ _ _ y S3 (p.trans p3) dv
 ·obtain ⟨hl,y⟩:=aj y
  have hl:=of_decide_eq_true hl
  refine Tuple_ (cQ R hR y S fun vs Vs s' h' as' n' y S' p dv hlen=>?_)
  exact Be (by (first | lia | omega)) y S' dv fun v V s3 h3 as3 n3 y S3 p3 dv=>q _ _ _ _ _ _ y S3 (p.trans p3) dv
set_option tactic.hygienic false
end
end
end
section
open PySem PySem.W PyProof.Rows PySem.Calls Builtin Builtin.ObjectAttr
theorem j5:∀(l init:List (Str×Value)),(forIn l init fun x s=>if (List.lookup x.fst s).isNone=true then pure (ForInStep.yield (s++[(x.fst,x.snd)])) else pure (ForInStep.yield s):Sem (List (Str×Value)))=pure (l.foldl iR init)
 | [],init=>by simp
 | x::r,init=>by
  rw [List.forIn_cons,List.foldl_cons]
  unfold iR
  split
  ·rw [pure_bind]; exact j5 r _
  ·rw [pure_bind]; exact j5 r _
noncomputable def yZ {β:Type} (names:List Str) (Us ds:List β):List (Str×β):=((names.drop (names.length - ds.length)).zip ds).foldl iR (names.zip Us)
noncomputable def oU {β:Type} (names:List Str) (Us ds:List β):List (Str×β):=names.filterMap fun n=>((yZ names Us ds).lookup n).map (n,·)
noncomputable def lA {β:Type} (names:List Str) (Us ds:List β):Bool:=((names.take (names.length - ds.length)).filter fun n=>((names.zip Us).lookup n).isNone).isEmpty
noncomputable def rE (names:List Str) (Us ds ds':List Value) (e1 e2:Sem (List (Str×Value))):Sem (List (Str×Value)) :=
 if (decide (Us.length > names.length) && true)=true then e1 else if (!lA names Us ds')=true then e2 else
  (forIn ((names.drop (names.length - ds'.length)).zip ds') (names.zip Us) fun x s =>
   if (List.lookup x.fst s).isNone=true then pure (ForInStep.yield (s++[(x.fst,x.snd)])) else pure (ForInStep.yield s)) >>= fun sl=>pure ((names++[]).filterMap fun n=>(sl.lookup n).map (n,·))
theorem xn {fd:FuncData} {pa:List Arg} {kd:List (Option Expr)} {df:List Expr} (hp:fd.params=⟨[],pa,none,[],kd,none,df⟩) (Us:List Value):∃e1 e2:Option (Array Value)->Sem (List (Str×Value)),bindArgs fd ⟨Us,[]⟩=(seqItems? fd.defaults >>= fun o =>
  rE (pa.map PySem.Arg.arg) Us (o.getD #[]).toList ((o.getD #[]).toList.drop ((o.getD #[]).toList.length - (pa.map PySem.Arg.arg).length)) (e1 o) (e2 o)):=by
 obtain ⟨fa,fb,fc,fd',fe,ff,fg,fh,fi,fj,fk,fl,fm⟩:=fd
 dsimp only at hp
 subst hp
 exact ⟨_,_,rfl⟩
theorem sE {M:Model} {A:Around} {E:Value->Shared->Prop} {s:Shared} {Q:List (Str×Value)->Shared->Prop} {names:List Str} {Us ds:List Value} {e1 e2:Sem (List (Str×Value))} (hl:Us.length<=names.length) (hl2:ds.length<=names.length)
  (hm:lA names Us ds=true) (hq:Q (oU names Us ds) s):wpAny M A (rE names Us ds (ds.drop (ds.length - names.length)) e1 e2) Q E s:=by
 refine aa (Nat.sub_eq_zero_of_le hl2) (aa List.drop_zero ?_)
 unfold rE
 refine aa hm (aa (decide_eq_false (Nat.not_lt.mpr hl)) ?_)
 show wpAny M A (_ >>= _) Q E s
 refine wpAny_bind ?_
 rw [j5,List.append_nil]
 exact wpAny_pure (wpAny_pure hq)
theorem uu {fd:FuncData} {Us:List Value} {M:Model} {A:Around} {E:Value->Shared->Prop} {s:Shared} {Q:List (Str×Value)->Shared->Prop} {ds:List Value} {od:Option (Array Value)} {pa:List Arg} {kd:List (Option Expr)} {df:List Expr}
  (hp:fd.params=⟨[],pa,none,[],kd,none,df⟩) (hd:∀(Q:Option (Array Value)->Shared->Prop),Q od s->wpAny M A (seqItems? fd.defaults) Q E s) (hds:(od.getD #[]).toList=ds) (hl:Us.length<=(pa.map PySem.Arg.arg).length) (hl2:ds.length<=(pa.map PySem.Arg.arg).length)
  (hm:lA (pa.map PySem.Arg.arg) Us ds=true) (hq:Q (oU (pa.map PySem.Arg.arg) Us ds) s):wpAny M A (bindArgs fd ⟨Us,[]⟩) Q E s:=by
 apply bc;intro ng
 obtain ⟨e1,e2,e⟩:=xn hp Us
 apply ng;clear ng
 refine aa e ?_
 apply bc;intro ng
 subst hds
 apply ng;clear ng
 exact wpAny_bind (hd _ (sE hl hl2 hm hq))
theorem iW {ρ:Rho} {as:List Addr} {ls:List (Str×AV)} {Ls:List (Str×Value)} (x:All2 (Nm ρ as) ls Ls) (n:Str):(ls.lookup n).isNone=(Ls.lookup n).isNone:=by
 have z:=bn x (n:=n)
 induction e:ls.lookup n with
 | none=>rw [e] at z; refine aa z ?_; rfl
 | some v=>rw [e] at z; obtain ⟨V,z,-⟩:=z; refine aa z ?_; rfl
theorem hP {ρ:Rho} {as:List Addr}:∀(names:List Str) {vs:List AV} {Us:List Value},All2 (Dn ρ as) vs Us->All2 (Nm ρ as) (names.zip vs) (names.zip Us)
 | [],_,_,_=>by simp; exact .nil
 | n::r,_,_,.nil=>by simp; exact .nil
 | n::r,_,_,.cons h t=>by simp only [List.zip_cons_cons]; exact .cons ⟨rfl,h⟩ (hP r t)
theorem uC {ρ:Rho} {as:List Addr} {l:List (Str×AV)} {m:List (Str×Value)} (x:All2 (Nm ρ as) l m):∀{i:List (Str×AV)} {j:List (Str×Value)},All2 (Nm ρ as) i j->All2 (Nm ρ as) (l.foldl iR i) (m.foldl iR j):=by
 induction x with
 | nil=>exact fun y=>y
 | @cons a b l m h _ ih =>
  intro i j y
  refine aa List.foldl_cons (aa List.foldl_cons ?_)
  refine ih ?_
  unfold iR
  refine aa (iW y a.1) (aa h.1 ?_)
  split
  ·exact y.app (.cons ⟨rfl,h.2⟩ .nil)
  ·exact y
theorem fQ {ρ:Rho} {as:List Addr} {l:List (Str×AV)} {m:List (Str×Value)} (x:All2 (Nm ρ as) l m):∀names:List Str,All2 (Nm ρ as) (names.filterMap fun n=>(l.lookup n).map (n,·)) (names.filterMap fun n=>(m.lookup n).map (n,·))
 | []=>.nil
 | n::r=>by
  have z:=bn x (n:=n)
  refine aa List.filterMap_cons (aa List.filterMap_cons ?_)
  induction e:l.lookup n with
  | none=>rw [e] at z; refine aa z ?_; exact fQ x r
  | some v=>rw [e] at z; obtain ⟨V,z,d⟩:=z; refine aa z ?_; exact .cons ⟨rfl,d⟩ (fQ x r)
theorem pX {ρ:Rho} {as:List Addr} {names:List Str} {vs dfl:List AV} {Us ds:List Value} {ls:List (Str×AV)} (x:All2 (Dn ρ as) vs Us) (y:All2 (Dn ρ as) dfl ds) (e:oV names vs dfl=some ls) :
  Us.length<=names.length/\ds.length<=names.length/\lA names Us ds=true/\All2 (Nm ρ as) ls (oU names Us ds):=by
 apply bc;intro ng
 obtain ⟨h,e⟩:=cU e
 apply ng;clear ng
 have e:=aF e
 subst e
 have xl:=x.len; have yl:=y.len
 refine ⟨xl▸of_decide_eq_true (ag (ag h)),yl▸of_decide_eq_true (au (ag h)),?_,?_⟩
 ·unfold lA
  refine aa (Eq.symm yl) (aa (Eq.symm (show (fun n=>(List.lookup n (names.zip vs)).isNone)=fun n=>(List.lookup n (names.zip Us)).isNone from funext fun n=>iW (hP names x) n)) ?_)
  exact au h
 ·unfold oU yZ
  refine aa (Eq.symm yl) ?_
  exact fQ (uC (hP _ y) (hP _ x)) names
end
section
open PySem PySem.W PyProof.Rows PySem.Calls Builtin Builtin.ObjectAttr
theorem All2.rev {α β:Type} {R:α->β->Prop} {l:List α} {m:List β} (x:All2 R l m):All2 R l.reverse m.reverse:=by
 induction x with
 | nil=>exact .nil
 | cons h _ ih=>refine aa List.reverse_cons (aa List.reverse_cons ?_); exact ih.app (.cons h .nil)
theorem of_ok {o:Obj} {fd:FuncData} (h:nC o=some fd):o.data = .func fd:=by
 unfold nC at h
 cases e:o.data <;> rw [e] at h <;> first | exact congrArg _ (aF h) | exact ap h
theorem AQ {o:Obj} {vs:List Value} (h:jP o=some vs):∃ws n,o.data = .seq ws n/\vs=ws.toList:=by
 unfold jP at h
 cases e:o.data <;> rw [e] at h <;> first | exact ⟨_,_,rfl,(aF h).symm⟩ | exact ap h
theorem yr {b:FuncBody} {l:List Stmt} (h:o9 b=some l):b = .stmts l:=by cases b <;> first | exact congrArg _ (aF h) | exact ap h
structure FnOk (P:Params) (a:Addr) (fi:FnI) (o:Obj) (fd:FuncData):Prop where
 ho:(K P).lookup a=some o
 hd:o.data = .func fd
 hb:fd.body = .stmts fi.body
 hp:fd.params=fi.params
 hs:fd.scope=fi.scope
 hg:fd.globals=mainGlobals
 hc:fd.closure = []
 hbi:fd.builtins=builtinsNs
 hcode:codeIn (K P) fd.code fd.qualname=true
 co:fd.scope.isCoroutine=false
 gen:fd.scope.isGenerator=false
 kind:fd.scope.kind = .function
 nd:(ae fi.scope.names).Nodup
 par:∃pa kd df,fi.params=⟨[],pa,none,[],kd,none,df⟩
 dfl:sU P fd.defaults=some fi.dfl
theorem vb {P:Params} {a:Addr} {fi:FnI} (e:dL P a=some fi):∃o fd,FnOk P a fi o fd:=by
 obtain ⟨fd,e1,e⟩:=az e
 obtain ⟨o,e1,e2⟩:=az e1
 obtain ⟨body,e3,e⟩:=az e
 obtain ⟨hc,e⟩:=cU e
 obtain ⟨ds,e4,e⟩:=gU e
 subst e
 refine ⟨o,fd,e1,of_ok e2,yr e3,rfl,rfl,?_,?_,?_,?_,?_,?_,?_,?_,?_,e4⟩
 ·exact aD (ag (ag (ag (ag (ag (ag (ag (ag (ag (ag (ag hc)))))))))))
 ·exact List.isEmpty_iff.mp (au (ag (ag (ag (ag (ag (ag (ag (ag (ag (ag hc)))))))))))
 ·exact aD (au (ag (ag (ag (ag (ag (ag (ag (ag (ag hc))))))))))
 ·exact au (ag (ag (ag (ag (ag (ag (ag (ag hc))))))))
 ·exact iO (au (ag (ag (ag (ag (ag (ag (ag hc))))))))
 ·exact iO (au (ag (ag (ag (ag (ag (ag hc)))))))
 ·exact aD (au (ag (ag (ag (ag (ag hc))))))
 ·exact of_decide_eq_true (au (ag (ag (ag (ag hc)))))
 ·have p1:=List.isEmpty_iff.mp (au (ag (ag (ag hc))))
  have p2:=Option.isNone_iff_eq_none.mp (au (ag (ag hc)))
  have p3:=List.isEmpty_iff.mp (au (ag hc))
  have p4:=Option.isNone_iff_eq_none.mp (au hc)
  revert p1 p2 p3 p4
  generalize fd.params=p
  obtain ⟨a,b,c,d,e,f,g⟩:=p
  intro p1 p2 p3 p4
  dsimp only at p1 p2 p3 p4
  subst p1 p2 p3 p4
  exact ⟨_,_,_,rfl⟩
theorem nR {ρ:Rho} {as:List Addr}:∀vs:List Value,All2 (Dn ρ as) (vs.map jq) vs
 | []=>.nil
 | v::r=>.cons kW (nR r)
section
variable {w:World} {ρ:Rho} {O:Opq} {d:Nat} {r:Rc} {post:Fl->St->Prop} {A:Around} {gs:Array GenState} {dr:Drawn} {os:OsState} {G:Gr} {Er:Value->Shared->Prop}
theorem kP {kd:Str->Option NameKind} {y:Str} (hy:kd y=some .local):∀(binds:List (Str×Value)) (m:Str->Option Value),bindL kd binds m y=(binds.reverse.lookup y).or (m y)
 | [],m=>by simp [bindL]
 | (n,v)::r,m=>by
  unfold bindL
  rw [kP hy r,List.reverse_cons,List.lookup_append]
  by_cases e:y=n
  ·subst e; simp [hy,List.lookup]
  ·have:(y == n)=false:=beq_eq_false_iff_ne.mpr e
   simp only [List.lookup,this]
   split
   ·dsimp only; refine aa (if_neg e) ?_; simp
   ·simp
theorem kT {kd:Str->Option NameKind} {y:Str} (hy:¬kd y=some .local):∀(binds:List (Str×Value)) (m:Str->Option Value),bindC kd binds m y=(binds.reverse.lookup y).or (m y)
 | [],m=>by simp [bindC]
 | (n,v)::r,m=>by
  unfold bindC
  rw [kT hy r,List.reverse_cons,List.lookup_append]
  by_cases e:y=n
  ·subst e; simp [hy,List.lookup]
  ·have:(y == n)=false:=beq_eq_false_iff_ne.mpr e
   simp only [List.lookup,this]
   split
   ·simp
   ·dsimp only; rw [if_neg e]; simp
theorem dg {β:Type} {p:Str->Bool} {x:Str} {v:β}:∀{l:List (Str×β)},(l.filter fun y=>p y.1).lookup x=some v->l.lookup x=some v/\p x=true
 | [],e=>by exact ap e
 | (n,u)::r,e=>by
  rw [List.filter_cons] at e
  split at e
  ·rename_i hp
   simp only [List.lookup] at e ⊢
   induction q:x == n with
   | true=>rw [q] at e; refine aa (beq_iff_eq.mp q) ?_; exact ⟨e,hp⟩
   | false=>rw [q] at e; exact dg e
  ·rename_i hp
   obtain ⟨z1,z2⟩:=dg e
   simp only [List.lookup]
   induction q:x == n with
   | true=>rw [beq_iff_eq.mp q] at z2; exact absurd z2 hp
   | false=>exact ⟨z1,z2⟩
theorem iC {names:List (Str×NameKind)} {x:Str} (m:Nat) (h:((cellsFrom 0 names []).lookup x).isSome=true):((cellsFrom m names []).lookup x).isSome=true:=by
 have e:=PyProof.Rows.cellsFrom_names names 0 m [] [] rfl
 have key:∀(l l':List (Str×Addr)),l.map (·.1)=l'.map (·.1)->(l.lookup x).isSome=true->(l'.lookup x).isSome=true:=by
  intro l
  induction l with
  | nil=>intro l' _ z; exact bH z
  | cons a r ih =>
   intro l' e z
   induction l' using List.casesOn with
   | nil=>cases e
   | cons b r' =>
    simp only [List.map_cons,List.cons.injEq] at e
    simp only [List.lookup] at z ⊢
    refine aa (Eq.symm e.1) ?_
    induction q:x == a.1 with
    | true=>rfl
    | false=>rw [q] at z; exact ih r' e.2 z
 exact key _ _ e h
theorem jA {x:Str} {i m:Nat}:∀{l:List Str} {k:Nat},(l.zip ((List.range' k l.length).map (m + ·))).lookup x=some i->∃j,i=m + (k + j)/\l[j]? = some x
 | [],k,e=>by exact ap e
 | n::r,k,e=>by
  simp only [List.length_cons,List.range'_succ,List.map_cons,List.zip_cons_cons,List.lookup] at e
  induction q:x == n with
  | true=>rw [q] at e; cases e; exact ⟨0,by (first | lia | omega),by rw [beq_iff_eq.mp q]; rfl⟩
  | false =>
   rw [q] at e
   apply bc;intro ng
   obtain ⟨j,e1,e2⟩:=jA (l:=r) (k:=k + 1) e
   apply ng;clear ng
   exact ⟨j + 1,by (first | lia | omega),e2⟩
theorem Co.enter {h h₁:Heap} {ob:List AO} {pc:List (CE×Bool)} {as:List Addr} {ls:List (Str×AV)} {Ls:List (Str×Value)} {env:Env} (S:Co w ρ O G h ob pc as) (k:h.StaysIn h₁) (eL:h.objs.size<=env.locals) (eg:env.globals=mainGlobals) (eb:env.builtins=builtinsNs) (ek:env.scope.kind = .function)
  (hns:h₁.Ns env.locals (bindL env.kindOf Ls fun zw=>none)) (dl:All2 (Nm ρ as) ls Ls) (hnd:(ae env.scope.names).Nodup) (hc1:∀n∈ae env.scope.names,env.scope.names.lookup n=some .cell/\(env.cells.lookup n).isSome=true)
  (hcell:∀n c,env.cells.lookup n=some c->h₁.IsCell c (bindC env.kindOf Ls (fun zw=>none) n)) (hap:env.cells.Pairwise fun x y=>x.2≠y.2) (hab:∀n c,(n,c)∈env.cells->env.locals < c) :
  SR w ρ O G env h₁ ⟨ls.reverse.filter (fun x=>decide (env.scope.names.lookup x.1=some .local)),(ae env.scope.names).zip ((List.range (ae env.scope.names).length).map (ob.length + ·)),ob++(ae env.scope.names).map (fun n=>.cell (ls.reverse.lookup n)),pc⟩
   (as++(ae env.scope.names).map fun n=>(env.cells.lookup n).getD 0):=by
 generalize hcn:ae env.scope.names=cn at hnd hc1 ⊢
 have pp:aM as (as++cn.map fun n=>(env.cells.lookup n).getD 0):=⟨_,rfl⟩
 have gfree:∀c,h.objs.size<=c->G c=none:=fun c hc=>by
  induction q:G c with
  | none=>rfl
  | some x=>exact absurd (Heap.lt_size (S.kp _ _ q)) (Nat.not_lt.mpr hc)
 have cs:∀(i:Nat) x a,(ob++cn.map (fun n=>AO.cell (ls.reverse.lookup n)))[i]? = some x->(as++cn.map fun n=>(env.cells.lookup n).getD 0)[i]? = some a->
   (ob[i]? = some x/\as[i]? = some a)\/∃j n,i=ob.length + j/\cn[j]? = some n/\x = .cell (ls.reverse.lookup n)/\env.cells.lookup n=some a:=fun i x a e e'=>by
  by_cases hi:i < ob.length
  ·rw [List.getElem?_append_left hi] at e
   rw [List.getElem?_append_left (by refine aa S.sz ?_; exact hi)] at e'
   exact .inl ⟨e,e'⟩
  ·rw [List.getElem?_append_right (by (first | lia | omega)),List.getElem?_map] at e
   rw [List.getElem?_append_right (by refine aa S.sz ?_; (first | lia | omega)),List.getElem?_map,S.sz] at e'
   induction q:cn[i - ob.length]? with
   | none=>rw [q] at e; exact ap e
   | some n =>
    rw [q] at e e'
    cases e; cases e'
    apply bc;intro ng
    obtain ⟨c,hc⟩:=Option.isSome_iff_exists.mp (hc1 n (List.mem_of_getElem? q)).2
    apply ng;clear ng
    exact .inr ⟨i - ob.length,n,by (first | lia | omega),q,rfl,by simp [hc]⟩
 refine ⟨S.bs,fun a o e=>k _ _ (S.kp a o e),S.og,gfree _ eL,eg,eb,ek,⟨_,hns,fun x v e=>?_⟩,fun x i e=>?_,by simp [S.sz],fun i o a e e'=>?_,fun i i' o o' a e1 e2 w1 w2 e3 e4=>?_,S.pc⟩
 ·obtain ⟨z1,z2⟩:=dg (p:=fun n=>decide (env.scope.names.lookup n=some .local)) e
  have z2:=of_decide_eq_true z2
  have z:=bn dl.rev (n:=x)
  rw [z1] at z
  apply bc;intro ng
  obtain ⟨V,y1,y2⟩:=z
  apply ng;clear ng
  exact ⟨V,by rw [kP (kd:=env.kindOf) z2,y1]; rfl,y2.pre pp⟩
 ·have e:(cn.zip ((List.range cn.length).map (ob.length + ·))).lookup x=some i:=e
  rw [List.range_eq_range'] at e
  apply bc;intro ng
  obtain ⟨j,z1,z2⟩:=jA (k:=0) e
  obtain ⟨c,hc⟩:=Option.isSome_iff_exists.mp (hc1 x (List.mem_of_getElem? z2)).2
  apply ng;clear ng
  refine ⟨c,?_,hc⟩
  refine aa (List.getElem?_append_right (by rw [S.sz]; (first | lia | omega))) (aa (List.getElem?_map) (aa S.sz (aa z1 (aa (show ob.length + (0 + j) - ob.length=j by (first | lia | omega)) (aa z2 ?_)))))
  simp [hc]
 ·rcases cs i o a e e' with ⟨f1,f2⟩ | ⟨j,n,rfl,f2,rfl,f4⟩
  ·obtain ⟨x,y⟩:=S.ob i o a f1 f2
   refine ⟨x.keep pp fun zw x ex=>k _ _ ex,fun ow=>⟨?_,y ow⟩⟩
   exact Nat.ne_of_lt (Nat.lt_of_lt_of_le (x.lt ow) eL)
  ·have ab:=hab n a (mem_of_lookup f4)
   apply bc;intro ng
   obtain ⟨co,z1,z2⟩:=hcell n a f4
   apply ng;clear ng
   refine ⟨⟨_,?_,co,z1,z2⟩,fun zw=>⟨Nat.ne_of_gt ab,gfree _ (Nat.le_trans eL (Nat.le_of_lt ab))⟩⟩
   have hk:=(hc1 n (List.mem_of_getElem? f2)).1
   have z:=bn dl.rev (n:=n)
   rw [kT (kd:=env.kindOf) (by show ¬env.scope.names.lookup n=_; rw [hk]; decide)]
   induction q:ls.reverse.lookup n with
   | none=>trivial
   | some v =>
    rw [q] at z
    apply bc;intro ng
    obtain ⟨V,y1,y2⟩:=z
    apply ng;clear ng
    exact ⟨V,by refine aa y1 ?_; rfl,y2.pre pp⟩
 ·rcases cs i o a e1 e3 with ⟨f1,f2⟩ | ⟨j,n,rfl,f2,rfl,f4⟩
  ·rcases cs i' o' a e2 e4 with ⟨g1,g2⟩ | ⟨j',n',rfl,g2,rfl,g4⟩
   ·exact S.nd i i' o o' a f1 g1 w1 w2 f2 g2
   ·exact absurd ((S.ob i o a f1 f2).1.lt w1) (Nat.not_lt.mpr (Nat.le_trans eL (Nat.le_of_lt (hab n' a (mem_of_lookup g4)))))
  ·rcases cs i' o' a e2 e4 with ⟨g1,g2⟩ | ⟨j',n',rfl,g2,rfl,g4⟩
   ·exact absurd ((S.ob i' o' a g1 g2).1.lt w2) (Nat.not_lt.mpr (Nat.le_trans eL (Nat.le_of_lt (hab n a (mem_of_lookup f4)))))
   ·have:n=n':=name_of_addr hap (mem_of_lookup f4) (mem_of_lookup g4)
    apply bc;intro ng
    subst this
    apply ng;clear ng
    have:=(List.getElem?_inj (List.getElem?_eq_some_iff.mp f2).1 hnd).mp (f2.trans g2.symm)
    (first | lia | omega)
theorem SR.out {env:Env} {h:Heap} {s:St} {as:List Addr} (S:SR w ρ O G env h s as):Co w ρ O G h s.ob s.pc as :=
 ⟨S.bs,S.kp,S.og,S.sz,fun i o a e e'=>⟨(S.ob i o a e e').1,fun ow=>((S.ob i o a e e').2 ow).2⟩,S.nd,S.pc⟩
theorem Co.wd {h:Heap} {ob:List AO} {pc:List (CE×Bool)} {as:List Addr} (S:Co w ρ O G h ob pc as):Wd w h:=let ⟨hb,W,k⟩:=S.bs; W.keeps fun a o e=>S.kp a o (k a o e)
theorem Bn {R:Result->Shared->Prop} {a:Addr} {o:Obj} {fd:FuncData} {body:List Stmt} {vals:List Value} {binds:List (Str×Value)} {s:Shared}
  (hroom:A.depth < recursionLimit) (ho:s.heap.get? a=some o) (hdata:o.data = .func fd) (hlim:s.heap.NoLimit) (hcd:s.heap.CodeRec fd.code fd.qualname)
  (hbody:fd.body = .stmts body) (hbind:BindsTo s fd ⟨vals,[]⟩ binds) (hclo:fd.closure = [])
  (hkind:∀x∈binds,fd.scope.names.lookup x.1=some .local\/(fd.scope.names.lookup x.1=some .cell/\((cellsFrom (s.heap.objs.size + 1) fd.scope.names []).lookup x.1).isSome=true))
  (h:∀s₁,InCallC s (callEnvC fd s.heap.objs.size a).locals (bindL (callEnvC fd s.heap.objs.size a).kindOf binds fun zw=>none) (callEnvC fd s.heap.objs.size a).cells
    (bindC (callEnvC fd s.heap.objs.size a).kindOf binds fun zw=>none) s₁->
   wpAny (model pr w) (A.deeper (callEnvC fd s.heap.objs.size a)) (execs body (callEnvC fd s.heap.objs.size a)) (fun f s'=>R (.ok (.ret (match f with | .ret v=>v | _=>.none))) s')
    (fun e s'=>wpAny (model pr w) (A.deeper (callEnvC fd s.heap.objs.size a)) (leaving (callEnvC fd s.heap.objs.size a) e) (fun zw s''=>R (.error e) s'') (fun e' s''=>R (.error e') s'') s') s₁)
  (hco:fd.scope.isCoroutine=false) (hgen:fd.scope.isGenerator=false) (hk:fd.scope.kind = .function) :
  codeAny (model pr w) A (.call (.ref a) ⟨vals,[]⟩) R s:=by
 refine codeAny_call_function hroom ho hdata hco hgen hbody hcd (hbind _ _ _ _ ?_)
 refine aa hclo ?_
 refine wpAny_newFunctionEnv_cells hk hkind fun env he s' x=>?_
 subst he
 exact ⟨hlim.keeps x.toInCall.keep,codeAny_func (h s' x)⟩
theorem Af {P:Params} {h:Heap} (X:(K P).In h) {v:Value} {ds:List AV} (e:sU P v=some ds) {as:List Addr} {gs:Array GenState} {dr:Drawn} {n:Nat} {os:OsState} :
  ∃od:Option (Array Value),All2 (Dn ρ as) ds (od.getD #[]).toList/\∀(M:Model) (A:Around) (E:Value->Shared->Prop) (Q:Option (Array Value)->Shared->Prop),Q od ⟨h,gs,dr,n,os⟩->wpAny M A (seqItems? v) Q E ⟨h,gs,dr,n,os⟩:=by
 induction v using Value.casesOn <;> try exact ap e
 ·exact ⟨none,aF e▸.nil,fun M A E Q z=>wpAny_pure z⟩
 ·obtain ⟨vs,e1,e⟩:=gU e
  apply bc;intro ng
  obtain ⟨o,f1,e2⟩:=az e1
  obtain ⟨ws,m,e3,rfl⟩:=AQ e2
  apply ng;clear ng
  exact ⟨some ws,e▸nR _,fun M A E Q z=>wpAny_seqItems (X _ _ f1) e3 z⟩
theorem nM {fi:FnI} {args:List AV} {ls:List (Str×AV)} (hb:aQ fi args=some ls):oV (fi.params.args.map PySem.Arg.arg) args fi.dfl=some ls/\
  (ls.all fun x=>decide (fi.scope.names.lookup x.1=some .local) || (decide (fi.scope.names.lookup x.1=some .cell) && ((cellsFrom 0 fi.scope.names []).lookup x.1).isSome))=true/\
  ∀n∈ae fi.scope.names,fi.scope.names.lookup n=some .cell/\((cellsFrom 0 fi.scope.names []).lookup n).isSome=true:=by
 unfold aQ at hb
 induction e:oV (fi.params.args.map (·.arg)) args fi.dfl with
 | none=>rw [e] at hb; exact ap hb
 | some ls' =>
  rw [e] at hb
  obtain ⟨hc,hb⟩:=cU hb
  have hb:=aF hb
  subst hb
  refine ⟨rfl,ag hc,fun n m=>?_⟩
  have z:=List.all_eq_true.mp (au hc) n m
  exact ⟨of_decide_eq_true (ag z),au z⟩
theorem tR {sc:Scope} (m:Nat) {as:List Addr} {ls:List (Str×AV)} {Bs:List (Str×Value)} (x:All2 (Nm ρ as) ls Bs) (h:(ls.all fun x=>decide (sc.names.lookup x.1=some .local) || (decide (sc.names.lookup x.1=some .cell) && ((cellsFrom 0 sc.names []).lookup x.1).isSome))=true) :
  ∀x∈Bs,sc.names.lookup x.1=some .local\/(sc.names.lookup x.1=some .cell/\((cellsFrom m sc.names []).lookup x.1).isSome=true):=by
 induction x with
 | nil=>intro x m; cases m
 | cons e _ ih =>
  refine List.forall_mem_cons.mpr ⟨?_,ih (au h)⟩
  refine aa (Eq.symm e.1) ?_
  rcases Bool.or_eq_true_iff.mp (ag h) with z | z
  ·exact .inl (of_decide_eq_true z)
  ·exact .inr ⟨of_decide_eq_true (ag z),iC _ (au z)⟩
theorem zE {a:Addr} {fi:FnI} {args:List AV} {ls:List (Str×AV)} {ob:List AO} {pc:List (CE×Bool)} {h:Heap} {n:Nat} {as:List Addr} {Us:List Value} {RR:Result->Shared->Prop} (hd:A.depth < recursionLimit) (hR:∀env,Room (A.deeper env) d)
  (hfi:dL w.params a=some fi) (hb:aQ fi args=some ls) (S:Co w ρ O G h ob pc as) (da:All2 (Dn ρ as) args Us)
  (q:∀A' env h' n' as',Room A' d->env.scope=fi.scope->aM as as'->
   SR w ρ O G env h' ⟨ls.reverse.filter (fun x=>decide (fi.scope.names.lookup x.1=some .local)),(ae fi.scope.names).zip ((List.range (ae fi.scope.names).length).map (ob.length + ·)),ob++(ae fi.scope.names).map (fun n=>.cell (ls.reverse.lookup n)),pc⟩ as'->
   ∀E',wpAny (model pr w) A' (execs fi.body env) (fun fl s'=>RR (.ok (.ret (match fl with | .ret v=>v | _=>.none))) s') E' ⟨h',gs,dr,n',os⟩) :
  codeAny (model pr w) A (.call (.ref a) ⟨Us,[]⟩) RR ⟨h,gs,dr,n,os⟩:=by
 apply bc;intro ng
 obtain ⟨o,fd,F⟩:=vb hfi
 have X:=S.wd.k
 obtain ⟨p,loose,mean,mg,mb,T⟩:=S.wd.t
 obtain ⟨hb2,hl1,hl2⟩:=nM hb
 obtain ⟨od,z1,z3⟩:=Af (ρ:=ρ) (as:=as) (gs:=gs) (dr:=dr) (n:=n) (os:=os) X F.dfl
 obtain ⟨b1,b2,b3,b4⟩:=pX da z1 hb2
 apply ng;clear ng
 have hkd:=F.hs▸tR (h.objs.size + 1) b4 hl1
 refine Bn (fd:=fd) (s:=⟨h,gs,dr,n,os⟩) hd (X _ _ F.ho) F.hd T.nolimit (codeRec_of X F.hcode) F.hb ?_ F.hc hkd (fun s₁ IC=>?_) F.co F.gen F.kind
 ·intro M A E Q z
  apply bc;intro ng
  obtain ⟨pa,kd,df,ep⟩:=F.par
  apply ng;clear ng
  rw [ep] at b1 b2 b3 z
  exact uu (F.hp.trans ep) (z3 M A E) rfl b1 b2 b3 z
 ·obtain ⟨h₁,tk,rfl⟩:=IC.toInCall.same
  have esc:(callEnvC fd h.objs.size a).scope=fi.scope:=F.hs
  have SE:=S.enter (env:=callEnvC fd h.objs.size a) IC.toInCall.keep IC.toInCall.fresh F.hg F.hbi F.kind IC.toInCall.ns b4 (by refine aa esc ?_; exact F.nd)
   (fun n m=>by
    rw [esc] at m
    apply bc;intro ng
    obtain ⟨z1,z2⟩:=hl2 n m
    apply ng;clear ng
    refine ⟨by refine aa esc ?_; exact z1,?_⟩
    show ((cellsFrom (h.objs.size + 1) fd.scope.names []).lookup n).isSome=true
    refine aa F.hs ?_; exact iC _ z2) IC.cell IC.apart IC.above
  rw [esc] at SE
  exact q _ (callEnvC fd h.objs.size a) _ _ _ (hR _) esc ⟨_,rfl⟩ SE _
theorem oz (R:Snd w ρ O d r) {a:Addr} {args:List AV} {s:St} {k:AV->St->Tr} {h:Heap} {n:Nat} {as:List Addr} {Us:List Value} {RR:Result->Shared->Prop} (hd:A.depth < recursionLimit) (hR:∀env,Room (A.deeper env) d)
  (y:(vB w.params r a args s k).ok ρ post) (S:Co w ρ O G h s.ob s.pc as) (da:All2 (Dn ρ as) args Us)
  (q:∀v V s' h' as' n',s'.ls=s.ls->s'.cl=s.cl->(k v s').ok ρ post->Co w ρ O G h' s'.ob s'.pc as'->aM as as'->Dn ρ as' v V->RR (.ok (.ret V)) ⟨h',gs,dr,n',os⟩):codeAny (model pr w) A (.call (.ref a) ⟨Us,[]⟩) RR ⟨h,gs,dr,n,os⟩:=by
 unfold vB at y
 induction hfi:dL w.params a with
 | none=>rw [hfi] at y; exact y.elim
 | some fi =>
  rw [hfi] at y
  induction hb:aQ fi args with
  | none=>simp only [hb] at y; exact y.elim
  | some ls =>
   simp only [hb] at y
   refine zE hd hR hfi hb S da fun A' env h1 n1 as1 hR1 esc p1 S1 E'=>?_
   rw [<- esc] at y
   refine cj R hR1 y (by refine aa esc ?_; exact S1) fun fl F s' h' as' n' y S' pp df=>?_
   have pp:=p1.trans pp
   induction fl with
    | nx=>have df:F = .next:=df; subst df; exact q .none .none { s' with ls:=s.ls,cl:=s.cl } _ _ _ rfl rfl y S'.out pp rfl
    | rt v=>obtain ⟨V,rfl,dv⟩:=df; exact q _ _ { s' with ls:=s.ls,cl:=s.cl } _ _ _ rfl rfl y S'.out pp dv
    | bk=>exact y.elim
    | ct=>exact y.elim
end
end
section
open PySem PySem.W PyProof.Rows PySem.Calls Builtin Builtin.ObjectAttr PySem.Spec
section
variable {w:World} {ρ:Rho} {O:Opq} {d:Nat} {r:Rc} {post:Fl->St->Prop} {A:Around} {gs:Array GenState} {dr:Drawn} {os:OsState} {G:Gr} {Er:Value->Shared->Prop}
theorem Co.stay {h h':Heap} {ob:List AO} {pc:List (CE×Bool)} {as:List Addr} (S:Co w ρ O G h ob pc as) (k:h.StaysIn h'):Co w ρ O G h' ob pc as :=
 ⟨S.bs,fun a o e=>k _ _ (S.kp a o e),S.og,S.sz,fun i o a e e'=>⟨((S.ob i o a e e').1).keep .refl (fun zw x ex=>k _ _ ex),(S.ob i o a e e').2⟩,S.nd,S.pc⟩
theorem Co.at {h:Heap} {s:St} {pc:List (CE×Bool)} {as:List Addr} (S:Co w ρ O G h s.ob pc as) {i:Nat} {o:AO} (e:s.at i=some o):∃a,as[i]? = some a/\aC ρ O as h a o:=by
 apply bc;intro ng
 obtain ⟨o',q,e⟩:=gU e
 apply ng;clear ng
 have hl:i < as.length:=by refine aa S.sz ?_; exact (List.getElem?_eq_some_iff.mp q).1
 exact ⟨as[i],List.getElem?_eq_getElem hl,e▸(S.ob i o' _ q (List.getElem?_eq_getElem hl)).1.view S.kp S.og⟩
theorem Co.lstAt {h:Heap} {s:St} {pc:List (CE×Bool)} {as:List Addr} (S:Co w ρ O G h s.ob pc as) {v:AV} {V:Value} {vs:List AV} (d:Dn ρ as v V) (e:lstAt s v=some vs):∃a Vs,V = .ref a/\All2 (Dn ρ as) vs Vs/\At h.get? a (.lst Vs):=by
 apply bc;intro ng
 obtain ⟨o,e,e2⟩:=az e
 obtain ⟨j,ej,e⟩:=az e
 rw [bN ej] at d
 obtain ⟨a,ea,rfl⟩:=d
 obtain ⟨a',a1,a2⟩:=S.at e
 rw [ea] at a1
 rw [<- aF a1,cB e2] at a2
 obtain ⟨Vs,b⟩:=a2
 apply ng;clear ng
 exact ⟨a,Vs,rfl,b⟩
theorem Co.tupAt {h:Heap} {s:St} {pc:List (CE×Bool)} {as:List Addr} (S:Co w ρ O G h s.ob pc as) {v:AV} {V:Value} {vs:List AV} (d:Dn ρ as v V) (e:tupAt s v=some vs):∃a Vs,V = .ref a/\All2 (Dn ρ as) vs Vs/\At h.get? a (.tup Vs):=by
 apply bc;intro ng
 obtain ⟨o,e,e2⟩:=az e
 obtain ⟨j,ej,e⟩:=az e
 rw [bN ej] at d
 obtain ⟨a,ea,rfl⟩:=d
 obtain ⟨a',a1,a2⟩:=S.at e
 rw [ea] at a1
 rw [<- aF a1,cY e2] at a2
 obtain ⟨Vs,b⟩:=a2
 apply ng;clear ng
 exact ⟨a,Vs,rfl,b⟩
theorem lj {t:Tr}:∀{cs:List CE},(rV cs t).ok ρ post->(∀c∈cs,c.den ρ)/\t.ok ρ post
 | [],y=>⟨fun zw m=>(nomatch m),y⟩
 | c::cs,y=>by
  obtain ⟨y1,y2⟩:=ij y
  obtain ⟨y3,y4⟩:=lj y2
  exact ⟨fun c m=>by cases m with | head=>exact y1 | tail _ m=>exact y3 c m,y4⟩
def ay (w:World) (ρ:Rho) (O:Opq) (hk:Hk) (d:Nat):Prop:=∀{a args ob cs v ob'},hk a args ob=some (cs,v,ob')->(∀c∈cs,c.den ρ)->
 ∀{A:Around} {gs dr os} {G:Gr} {h:Heap} {pc:List (CE×Bool)} {n:Nat} {as:List Addr} {Us:List Value} {Q:Value->Shared->Prop} {Er:Value->Shared->Prop},Room A d->Co w ρ O G h ob pc as->All2 (Dn ρ as) args Us->
  (∀V h' as' n',Co w ρ O G h' ob' pc as'->aM as as'->Dn ρ as' v V->Q V ⟨h',gs,dr,n',os⟩)->wpAny (model pr w) A (call (.ref a) Us) Q Er ⟨h,gs,dr,n,os⟩
theorem ay.le {hk:Hk} {m:Nat} (H:ay w ρ O hk d) (l:d<=m):ay w ρ O hk m:=fun e c zw zw zw zw zw zw zw zw zw zw zw zw R=>H e c (R.le l)
theorem gJ {as:List Addr} {vs:List AV} {es:List IE} {Vs:List Value} (e:gQ vs=some es) (x:All2 (Dn ρ as) vs Vs):IntsAre Vs (es.map (IE.den ρ)):=by
 induction x generalizing es with
 | nil=>exact aF e▸.nil
 | cons d _ ih =>
  obtain ⟨ie,e1,e⟩:=az e
  obtain ⟨es',e2,e⟩:=gU e
  rw [cP e1] at d
  obtain ⟨t,rfl⟩:=d
  exact e▸.cons _ _ (ih e2)
theorem w8 (es:List IE):(uW es).den ρ=(es.map (IE.den ρ)).sum:=by
 induction es with
 | nil=>rfl
 | cons e r ih =>
  induction r using List.casesOn with
  | nil=>exact (Int.add_zero _).symm
  | cons e' r=>exact congrArg (e.den ρ + ·) ih
theorem vx (e:IE) (es:List IE):(lQ e es).den ρ∈(e::es).map (IE.den ρ)/\∀a∈(e::es).map (IE.den ρ),a<=(lQ e es).den ρ:=by
 induction es generalizing e with
 | nil=>exact ⟨.head _,fun a m=>by cases m with | head=>exact Int.le_refl _ | tail _ m=>cases m⟩
 | cons e' r ih =>
  obtain ⟨h1,h2⟩:=ih e'
  show max (e.den ρ) ((lQ e' r).den ρ)∈_/\∀a∈_,a<=max (e.den ρ) ((lQ e' r).den ρ)
  refine ⟨?_,fun a m=>?_⟩
  ·by_cases hh:e.den ρ<=(lQ e' r).den ρ
   ·refine aa (Int.max_eq_right hh) ?_; exact .tail _ h1
   ·refine aa (Int.max_eq_left (Int.le_of_lt (Int.not_le.mp hh))) ?_; exact .head _
  ·rcases List.mem_cons.mp m with rfl | m
   ·exact Int.le_max_left _ _
   ·exact Int.le_trans (h2 a m) (Int.le_max_right _ _)
theorem ay.no:ay w ρ O aA d:=fun e=>by exact ap e
theorem rU (R:Snd w ρ O d r) {a:Addr} {args:List AV} {s:St} {k:AV->St->Tr} {h:Heap} {n:Nat} {as:List Addr} {Us:List Value} {Q:Value->Shared->Prop} (hR:Room A (d + 1))
  (y:(zB w.params r a args s k).ok ρ post) (S:Co w ρ O G h s.ob s.pc as) (da:All2 (Dn ρ as) args Us)
  (q:∀v V s' h' as' n',s'.ls=s.ls->s'.cl=s.cl->(k v s').ok ρ post->Co w ρ O G h' s'.ob s'.pc as'->aM as as'->Dn ρ as' v V->Q V ⟨h',gs,dr,n',os⟩):wpAny (model pr w) A (call (.ref a) Us) Q Er ⟨h,gs,dr,n,os⟩:=by
 apply bc;intro ng
 obtain ⟨hm,y⟩:=aj y
 obtain ⟨fI,hi,y⟩:=af y
 obtain ⟨ht,y⟩:=aj y
 apply ng;clear ng
 have hi:=oQ hi
 have X:=S.wd.k
 have dp:=hR.dp
 have un:=hR.un
 have w1:(Code.builtin "type.__call__" ⟨.ref a::Us,[]⟩).weight=1:=by rfl
 have w2:(Code.builtin "type.__call__" ⟨.ref a::Us,[]⟩).cUnits=1:=by rfl
 have S1:=S.push emptyDict (ao:=.ns []) ⟨[],.nil,_,Heap.get?_push_size _ rfl,#[],0,rfl,fun zw he=>by simp at he,fun zw=>rfl,Nat.le_refl _⟩
 have S2:=S1.push (instObj a h.objs.size) (ao:=.inst a s.ob.length) ⟨h.objs.size,by refine aa (Eq.symm S.sz) ?_; simp,_,Heap.get?_push_size _ rfl,rfl⟩
 have sz:(h.push emptyDict).objs.size=h.objs.size + 1:=Heap.size_push ..
 rw [sz,List.append_assoc] at S2
 refine wpAny_call (make_core (makes_of X hm) (looks_findIn X hi) (fun self=>bind_fn X self (aD ht)) (.inl rfl) ?_)
 have pp:aM as (as++[h.objs.size]++[h.objs.size + 1]):=⟨_,List.append_assoc ..⟩
 have gl:(as++[h.objs.size]++[h.objs.size + 1])[s.ob.length + 1]? = some (h.objs.size + 1):=by
  rw [<- S.sz,List.append_assoc,List.getElem?_append_right (by (first | lia | omega))]; simp
 refine oz R (A:=A.under _) (RR:=InitBack _ _) (by show A.depth + (Code.builtin "type.__call__" ⟨.ref a::Us,[]⟩).weight < _; refine aa w1 ?_; (first | lia | omega))
  (fun env=>⟨hR.hd,by show A.depth + (Code.builtin "type.__call__" ⟨.ref a::Us,[]⟩).weight + 1 + 3 * d + 3 < _; refine aa w1 ?_; (first | lia | omega),by show A.units + (Code.builtin "type.__call__" ⟨.ref a::Us,[]⟩).cUnits + 3 + 20 * d + 20 < _; refine aa w2 ?_; (first | lia | omega)⟩)
  y S2 (.cons ⟨_,gl,rfl⟩ (da.pre pp)) fun v V s' h' as' n' e1 e2 y S' p' dv=>?_
 apply bc;intro ng
 cases v <;> try exact y.elim
 have dv:V = .none:=dv
 subst dv
 apply ng;clear ng
 exact ⟨rfl,q _ _ _ _ _ _ e1 e2 y S' (pp.trans p') ⟨_,p'.get gl,rfl⟩⟩
theorem rF {α:Type} {f:AV->Option α} {x:α} {as:List Addr} {args:List AV} {Us:List Value} (e:(be args).bind f=some x) (da:All2 (Dn ρ as) args Us):∃a U,Us = [U]/\f a=some x/\Dn ρ as a U:=by
 apply bc;intro ng
 obtain ⟨a,e1,e2⟩:=az e
 apply ng;clear ng
 rw [ba e1] at da
 exact let ⟨U,e,d⟩:=da.one; ⟨a,U,e,e2,d⟩
theorem DH {p:AV×AV} {as:List Addr} {args:List AV} {Us:List Value} (e:d9 args=some p) (da:All2 (Dn ρ as) args Us):∃U V,Us = [U,V]/\Dn ρ as p.1 U/\Dn ρ as p.2 V:=by
 rw [cq e] at da
 exact da.two
theorem BL {h:Heap} {a:Addr} {Vs:List Value} {es:List IE} {n:Nat} {Q:Value->Shared->Prop} (hd:A.handled=none) (hi:IntsAre Vs (es.map (IE.den ρ))) (l:h.IsList a Vs.toArray)
  (q:∀h' n' t,h.StaysIn h'->Q (.int ((uW es).den ρ) t) ⟨h',gs,dr,n',os⟩):wpAny (model pr w) A (call (.builtin "sum") [.ref a]) Q Er ⟨h,gs,dr,n,os⟩:=by
 obtain ⟨xs,ex⟩:=hi.allInts.items
 have hns:es.map (IE.den ρ)=xs.toList.map (·.1):=by rw [<- hi.numsOf,<- nums_intItems,<- ex]
 rw [ex] at l
 refine sum_intListG (s:=⟨h,gs,dr,n,os⟩) hd l fun h' tk t' kk=>?_
 rw [preSum_eq,List.take_of_length_le (by simp),<- hns,<- w8]
 exact q _ _ _ kk
theorem Ap {h:Heap} {a:Addr} {Vs:List Value} {e0:IE} {es:List IE} {n:Nat} {Q:Value->Shared->Prop} (hd:A.handled=none) (hi:IntsAre Vs ((e0::es).map (IE.den ρ))) (l:h.IsList a Vs.toArray)
  (q:∀h' n' t,h.StaysIn h'->Q (.int ((lQ e0 es).den ρ) t) ⟨h',gs,dr,n',os⟩):wpAny (model pr w) A (call (.builtin "max") [.ref a]) Q Er ⟨h,gs,dr,n,os⟩:=by
 obtain ⟨xs,ex⟩:=hi.allInts.items
 have hns:(e0::es).map (IE.den ρ)=xs.toList.map (·.1):=by rw [<- hi.numsOf,<- nums_intItems,<- ex]
 have hsz:0 < xs.size:=by
  have h3:=congrArg List.length hns; simp at h3; (first | decide | omega)
 rw [ex] at l
 refine max_intList (s:=⟨h,gs,dr,n,os⟩) hd l hsz fun v h' tk hv kk=>?_
 obtain ⟨t,rfl⟩:=intItems_at hv
 obtain ⟨h1,h2⟩:=argBest_gt (numAt xs) (xs.size - 1)
 obtain ⟨m1,m2⟩:=vx (ρ:=ρ) e0 es
 rw [hns] at m1 m2
 refine (congrArg (fun z=>Q (.int z t) _) (Int.le_antisymm ?_ (m2 _ ?_))).mp (q _ _ t kk)
 ·obtain ⟨j,hj,ej⟩:=mem_getD m1
  rw [List.length_map,Array.length_toList] at hj
  rw [<- ej,<- numAt_eq]; exact h2 j (by (first | decide | omega))
 ·rw [numAt_eq]; exact getD_mem (by rw [List.length_map,Array.length_toList]; (first | decide | omega))
section
variable {args:List AV} {s:St} {k:AV->St->Tr} {h:Heap} {n:Nat} {as:List Addr} {Us:List Value} {Q:Value->Shared->Prop}
theorem u4 {nm:String} (hR:Room A (d + 1)) (y:(CY nm args s k).ok ρ post) (S:Co w ρ O G h s.ob s.pc as) (da:All2 (Dn ρ as) args Us)
  (q:∀v V h' n',(k v s).ok ρ post->Co w ρ O G h' s.ob s.pc as->Dn ρ as v V->Q V ⟨h',gs,dr,n',os⟩):wpAny (model pr w) A (call (.builtin nm) Us) Q Er ⟨h,gs,dr,n,os⟩:=by
 apply bc;intro ng
 rcases cG y with ⟨hn,y⟩ | ⟨-,y⟩ <;> refine ng ?_ <;> clear ng
 ·refine aa (aD hn) ?_
  apply bc;intro ng
  obtain ⟨p,e,y⟩:=af y
  obtain ⟨z,ez,y⟩:=af y
  obtain ⟨e1,e2⟩:=ah ez
  obtain ⟨U,V,rfl,d1,d2⟩:=DH e da
  rw [cP e1] at d1; rw [nE e2] at d2
  obtain ⟨t,rfl⟩:=d1
  have d2:V=z.2:=d2
  subst d2
  apply ng;clear ng
  apply bc;intro ng
  rcases cG y with ⟨h1,y⟩ | ⟨-,y⟩ <;> refine ng ?_ <;> clear ng
  ·refine aa (aD h1) ?_; exact Ba (q _ _ _ _ y S rfl)
  ·obtain ⟨h1,y⟩:=aj y
   refine aa (aD h1) ?_; exact AU fun n'=>q _ _ _ _ y S rfl
 apply bc;intro ng
 rcases cG y with ⟨hn,y⟩ | ⟨-,y⟩ <;> refine ng ?_ <;> clear ng
 ·refine aa (aD hn) ?_
  apply bc;intro ng
  obtain ⟨e,ee,y⟩:=af y
  obtain ⟨a,U,rfl,e1,d1⟩:=rF ee da
  rw [cP e1] at d1
  obtain ⟨t,rfl⟩:=d1
  apply ng;clear ng
  exact Dl fun t n'=>q _ _ _ _ y S ⟨t,by exact aa sS rfl⟩
 apply bc;intro ng
 rcases cG y with ⟨hn,y⟩ | ⟨-,y⟩ <;> refine ng ?_ <;> clear ng
 ·refine aa (aD hn) ?_
  apply bc;intro ng
  rcases cE y with ⟨p,e,y⟩ | ⟨-,y⟩ <;> refine ng ?_ <;> clear ng
  ·obtain ⟨z,ez,y⟩:=af y
   apply bc;intro ng
   obtain ⟨U,V,rfl,d1,d2⟩:=DH e da
   obtain ⟨t,u,rfl,rfl⟩:=bF ez d1 d2
   apply ng;clear ng
   refine max_two_ints (s:=⟨h,gs,dr,n,os⟩) hR.hd fun h' tk kk=>?_
   split
   ·rename_i hb
    exact q _ _ _ _ y (S.stay kk) ⟨u,congrArg (fun z=>Value.int z u) (Int.max_eq_right (by (first | decide | lia | omega))).symm⟩
   ·rename_i hb
    exact q _ _ _ _ y (S.stay kk) ⟨t,congrArg (fun z=>Value.int z t) (Int.max_eq_left (by (first | decide | lia | omega))).symm⟩
  ·obtain ⟨es,ee,y⟩:=af y
   apply bc;intro ng
   obtain ⟨vs,e1,e2⟩:=az ee
   obtain ⟨v,U,rfl,e3,d1⟩:=rF e1 da
   obtain ⟨a,Vs,rfl,a2,a3⟩:=S.lstAt d1 e3
   apply ng;clear ng
   induction es using List.casesOn with
   | nil=>exact y.elim
   | cons e0 es=>exact Ap hR.hd (gJ e2 a2) a3 fun h' n' t kk=>q _ _ _ _ y (S.stay kk) ⟨t,rfl⟩
 apply bc;intro ng
 rcases cG y with ⟨hn,y⟩ | ⟨-,y⟩ <;> refine ng ?_ <;> clear ng
 ·refine aa (aD hn) ?_
  apply bc;intro ng
  obtain ⟨es,ee,y⟩:=af y
  obtain ⟨vs,e1,e2⟩:=az ee
  obtain ⟨v,U,rfl,e3,d1⟩:=rF e1 da
  obtain ⟨a,Vs,rfl,a2,a3⟩:=S.lstAt d1 e3
  apply ng;clear ng
  exact BL hR.hd (gJ e2 a2) a3 fun h' n' t kk=>q _ _ _ _ y (S.stay kk) ⟨t,rfl⟩
 apply bc;intro ng
 obtain ⟨hn,y⟩:=aj y
 apply ng;clear ng
 refine aa (aD hn) ?_
 apply bc;intro ng
 obtain ⟨v,e1,y⟩:=af y
 obtain ⟨v',U,rfl,e3,d1⟩:=rF (f:=some) (show (be args).bind some=some v by refine aa e1 ?_; rfl) da
 apply ng;clear ng
 rw [aF e3] at d1
 apply bc;intro ng
 rcases cE y with ⟨vs,e,y⟩ | ⟨-,y⟩ <;> refine ng ?_ <;> clear ng
 ·obtain ⟨a,Vs,rfl,a2,a3⟩:=S.lstAt d1 e
  apply bc;intro ng
  obtain ⟨hl,y⟩:=aj y
  apply ng;clear ng
  have hl:=of_decide_eq_true hl
  have ll:=a2.len
  have l:h.IsList a Vs.toArray:=a3
  refine call_len_list (s:=⟨h,gs,dr,n,os⟩) l (by simp; (first | decide | lia | omega)) ?_
  exact q _ _ _ _ y S ⟨_,congrArg (fun n:Nat=>Value.int n _) (by refine aa ll ?_; simp)⟩
 ·obtain ⟨vs,e,y⟩:=af y
  apply bc;intro ng
  obtain ⟨a,Vs,rfl,a2,a3⟩:=S.tupAt d1 e
  obtain ⟨hl,y⟩:=aj y
  apply ng;clear ng
  have hl:=of_decide_eq_true hl
  have ll:=a2.len
  have l:IsTup h a Vs.toArray:=a3
  refine PyProof.Rows.len_tuple (s:=⟨h,gs,dr,n,os⟩) l (by simp; (first | decide | lia | omega)) ?_
  exact q _ _ _ _ y S ⟨_,congrArg (fun n:Nat=>Value.int n _) (by refine aa ll ?_; simp)⟩
theorem di {hk:Hk} (H:ay w ρ O hk (d + 1)) (R:Snd w ρ O d r) {fv:AV} {V:Value} (hR:Room A (d + 1))
  (y:(jG w.params hk r fv args s k).ok ρ post) (S:Co w ρ O G h s.ob s.pc as) (df:Dn ρ as fv V) (da:All2 (Dn ρ as) args Us)
  (q:∀v V s' h' as' n',s'.ls=s.ls->s'.cl=s.cl->(k v s').ok ρ post->Co w ρ O G h' s'.ob s'.pc as'->aM as as'->Dn ρ as' v V->Q V ⟨h',gs,dr,n',os⟩):wpAny (model pr w) A (call V Us) Q Er ⟨h,gs,dr,n,os⟩:=by
 obtain ⟨v,ev,y⟩:=af y
 rw [nE ev] at df
 have df:V=v:=df
 subst df
 induction V using Value.casesOn <;> try exact y.elim
 ·obtain ⟨hn,y⟩:=aj y
  refine aa (aD hn) ?_
  apply bc;intro ng
  obtain ⟨vs,e,y⟩:=af y
  obtain ⟨a,U,rfl,e1,d1⟩:=rF e da
  obtain ⟨hl,y⟩:=aj y
  have hl:=of_decide_eq_true hl
  obtain ⟨a',Vs,rfl,a2,a3⟩:=S.lstAt d1 e1
  apply ng;clear ng
  have l:h.IsList a' Vs.toArray:=a3
  have ll:=a2.len
  refine call_tuple_list (s:=⟨h,gs,dr,n,os⟩) l (fun h' kk=>?_) (by simp; refine aa sizeLine_eq ?_; (first | lia | omega))
  have S':=(S.stay kk).push { cls:=.type "tuple",data:=.seq Vs.toArray } (ao:=.tup vs) ⟨Vs,a2.mono fun zw zw z=>z.pre ⟨_,rfl⟩,_,Heap.get?_push_size _ rfl,rfl,_,rfl⟩
  refine q (.loc s.ob.length) _ { s with ob:=s.ob++[.tup vs] } _ _ _ rfl rfl y S' ⟨_,rfl⟩ ⟨h'.objs.size,?_,rfl⟩
  refine aa (Eq.symm S.sz) ?_; simp
 ·exact u4 hR y S da fun v V h' n' y S' dv=>q _ _ _ _ _ _ rfl rfl y S' .refl dv
 ·rcases cE y with ⟨z,e,y⟩ | ⟨-,y⟩
  ·obtain ⟨y1,y2⟩:=lj y
   exact H e y1 hR S da fun V h' as' n' S' p dv=>q _ _ { s with ob:=z.2.2 } _ _ _ rfl rfl y2 S' p dv
  ·rcases cG y with ⟨-,y⟩ | ⟨-,y⟩
   ·exact rU R hR y S da q
   ·exact wpAny_call (oz R (by have:=hR.dp; (first | lia | omega)) (fun env=>hR.deeper env) y S da q)
end
end
theorem fZ {w:World} {ρ:Rho} {O:Opq} {hk:Hk} {r0:Nat} (H:ay w ρ O hk r0):∀n,Snd w ρ O (n + r0) (run w.params hk n)
 | 0=>rM
 | n + 1=>by
  have R:=fZ H n
  have l:n + r0<=n + 1 + r0:=by (first | lia | omega)
  exact ⟨fun hR y S q=>iS R (hR.le l) y S q,fun hR y S hw q=>iD R (hR.le l) y S hw q,fun hR y S q=>dD R (hR.le l) y S q,
   fun hR y S df da q=>di (d:=n + r0) (H.le (by (first | lia | omega))) R (by rw [show n + r0 + 1=n + 1 + r0 by (first | lia | omega)]; exact hR) y S df da q⟩
end
noncomputable abbrev S' (x:String):Str:=Str.ofString x
noncomputable def bl:List AO:=[.fz (.ns [(S' "skew_char",.any),(S' "hyphen_char",.any),(S' "edge_start",.any),(S' "boundary",.any),(S' "kerns",.any),(S' "program",.any),(S' "chars",.loc 2),(S' "params",.any),(S' "check",.any),(S' "design",.any),(S' "size",.any),(S' "name",.any),(S' "number",.int (.c 1))]),.fz (.inst 822 0),.opq 0]
inductive Ob1
 | ie (a b:IE) | nat (i j:Nat) | val (v u:Value) | ty (t u:Ty) | il (b:Nat) (es:List IE) (b':Nat) (es':List IE) | ii (es:List IE) (b':Nat) (es':List IE) | rf (b b':Nat)
def Ob1.den (ρ ρ':Rho):Ob1->Prop
 | .ie a b=>a.den ρ=b.den ρ'
 | .nat i j=>i=j
 | .val v u=>v=u
 | .ty t u=>t=u
 | .il b es b' es'=>ρ.l b++es.map (IE.den ρ)=ρ'.l b'++es'.map (IE.den ρ')
 | .ii es b' es'=>es.map (IE.den ρ)=ρ'.l b'++es'.map (IE.den ρ')
 | .rf b b'=>ρ.l b=ρ'.l b'
def bE (ρ ρ':Rho):List Ob1->Prop
 | []=>True
 | [o]=>o.den ρ ρ'
 | o::r=>o.den ρ ρ'/\bE ρ ρ' r
theorem bE.cons {ρ ρ':Rho} {o:Ob1} {r:List Ob1}:bE ρ ρ' (o::r)↔o.den ρ ρ'/\bE ρ ρ' r:=by
 induction r using List.casesOn with
 | nil=>simp [bE]
 | cons p r=>rfl
theorem bE.app {ρ ρ':Rho}:∀{l r:List Ob1},bE ρ ρ' (l++r)↔bE ρ ρ' l/\bE ρ ρ' r
 | [],r=>by simp [bE]
 | o::l,r=>by rw [List.cons_append,bE.cons,bE.cons,bE.app,and_assoc]
noncomputable def ku (c:Bool):Option (List Ob1):=match c with | true=>some [] | false=>none
theorem dK {c:Bool} {l:List Ob1} (e:ku c=some l):c=true:=by induction c with | true=>rfl | false=>exact ap e
theorem mK {a b:Option Nat} (e:a=b):ku (a == b)=some []:=by rw [e,beq_self_eq_true]; rfl
noncomputable def uS (mp:Nat->Option Nat) (v u:AV):Option (List Ob1):=match u with
 | .any=>some []
 | .none=>ku v.n?
 | .bool b=>v.b?.bind fun a=>ku (a == b)
 | .int b=>v.i?.map fun a=>[.ie a b]
 | .str y=>v.s?.bind fun x=>ku (x == y)
 | .loc j=>v.l?.bind fun i=>ku (mp i == some j)
 | .glb u=>v.g?.map fun v=>[.val v u]
noncomputable def ox {α:Type} (f:α->α->Option (List Ob1)):List α->List α->Option (List Ob1)
 | [],us=>(match us with | []=>some [] | _::_=>none)
 | v::vs,us=>(match us with | []=>none | u::us=>(f v u).bind fun l=>(ox f vs us).map (l++·))
noncomputable def GN {κ:Type} [BEq κ] (mp:Nat->Option Nat) (p q:κ×AV):Option (List Ob1):=match p.1 == q.1 with | true=>uS mp p.2 q.2 | false=>none
noncomputable def NS (mp:Nat->Option Nat) (u:Option AV) (v:Option AV):Option (List Ob1):=match u with | none=>some [] | some u=>v.bind fun v=>uS mp v u
noncomputable def AO.sq? (o:AO):Option (List AV):=match o.pl? with | some vs=>some vs | none=>o.lst?
noncomputable def fF (mp:Nat->Option Nat) (o u:AO):Option (List Ob1):=match u with
 | .lst us=>o.sq?.bind fun vs=>ox (uS mp) vs us
 | .tup us=>o.tup?.bind fun vs=>ox (uS mp) vs us
 | .ns us=>o.ns?.bind fun vs=>ox (GN mp) vs us
 | .inst D j=>o.inst?.bind fun q=>ku (q.1 == D && mp q.2 == some j)
 | .cell u=>o.cell?.bind (NS mp u)
 | .il b' es'=>(match o.il? with | some q=>some [.il q.1 q.2 b' es'] | none=>(o.pl?.bind gQ).map fun es=>[.ii es b' es'])
 | .raw u=>o.raw?.map fun t=>[.ty t u]
 | .pl us=>o.pl?.bind fun vs=>ox (uS mp) vs us
 | .rf b'=>o.rf?.map fun b=>[.rf b b']
 | .dc us=>o.dc?.bind fun vs=>ox (GN mp) vs us
 | _=>none
noncomputable def AO.isF:AO->Bool | .opq _=>false | .dead=>false | .fz _=>false | .lit _ _=>false | .tit _ _=>false | _=>true
noncomputable def Hu (mp:Nat->Option Nat) (c:Bool) (o:AO) (j m:Nat):Option (List Ob1):=o.it?.bind fun q=>match c == q.1 && mp q.2.1 == some j with | true=>some [.nat q.2.2 m] | false=>none
noncomputable def GC (mp:Nat->Option Nat) (o u:AO):Option (List Ob1):=match u with
 | .dead=>some []
 | .opq l=>o.opq?.bind fun k=>ku (k == l)
 | .fz u=>o.fz?.bind fun o=>fF mp o u
 | .lit j m=>Hu mp true o j m
 | .tit j m=>Hu mp false o j m
 | u=>match o.isF with | true=>fF mp o u | false=>none
section
variable {ρ ρ':Rho} {O:Opq} {as as':List Addr} {mp:Nat->Option Nat}
def Mp (mp:Nat->Option Nat) (as as':List Addr):Prop:=∀i j,mp i=some j->∀x,as[i]? = some x->as'[j]? = some x
theorem bS (hm:Mp mp as as') {v u:AV} {V:Value} {l:List Ob1} (e:uS mp v u=some l) (o:bE ρ ρ' l) (d:Dn ρ as v V):Dn ρ' as' u V:=by
 induction u with
 | any=>trivial
 | none=>rw [KP (dK e)] at d; exact d
 | bool b=>obtain ⟨a,e1,e2⟩:=az e; rw [xA e1,aD (dK e2)] at d; exact d
 | int b =>
  obtain ⟨a,e1,e2⟩:=gU e
  rw [cP e1] at d
  rw [<- e2] at o
  obtain ⟨t,ht⟩:=d
  exact ⟨t,ht.trans (congrArg (fun z=>Value.int z t) o)⟩
 | str y=>obtain ⟨a,e1,e2⟩:=az e; rw [nu e1,aD (dK e2)] at d; exact d
 | loc j =>
  obtain ⟨i,e1,e2⟩:=az e
  rw [bN e1] at d
  obtain ⟨a,a1,a2⟩:=d
  exact ⟨a,hm _ _ (aD (dK e2)) _ a1,a2⟩
 | glb x =>
  obtain ⟨a,e1,e2⟩:=gU e
  rw [nE e1] at d
  rw [<- e2] at o
  exact d.trans o
theorem hY {α β:Type} {f:α->α->Option (List Ob1)} {R R':α->β->Prop} (k:∀v u V l,f v u=some l->bE ρ ρ' l->R v V->R' u V):∀{vs us:List α} {Vs:List β} {l:List Ob1},ox f vs us=some l->bE ρ ρ' l->All2 R vs Vs->All2 R' us Vs:=by
 intro vs
 induction vs with
 | nil =>
  intro us Vs l e o x
  induction us using List.casesOn with
  | nil=>refine aa x.n ?_; exact .nil
  | cons _ _=>exact ap e
 | cons v vs ih =>
  intro us Vs l e o x
  induction us using List.casesOn with
  | nil=>exact ap e
  | cons u us =>
   apply bc;intro ng
   obtain ⟨l1,e1,e⟩:=az e
   obtain ⟨l2,e2,e⟩:=gU e
   rw [<- e] at o
   obtain ⟨b,r,hV,d,x⟩:=x.c
   apply ng;clear ng
   refine aa hV ?_
   exact .cons (k _ _ _ _ e1 (bE.app.mp o).1 d) (ih e2 (bE.app.mp o).2 x)
theorem uq {κ:Type} [BEq κ] [LawfulBEq κ] (hm:Mp mp as as') (v u:κ×AV) (V:κ×Value) (l:List Ob1) (e:GN mp v u=some l) (o:bE ρ ρ' l) (d:v.1=V.1/\Dn ρ as v.2 V.2):u.1=V.1/\Dn ρ' as' u.2 V.2:=by
 unfold GN at e
 induction q:v.1 == u.1 with
 | true=>rw [q] at e; exact ⟨(aD q).symm.trans d.1,bS hm e o d.2⟩
 | false=>rw [q] at e; exact ap e
theorem jI (hm:Mp mp as as') {vs us:List AV} {Vs:List Value} {l:List Ob1} (e:ox (uS mp) vs us=some l) (o:bE ρ ρ' l) (x:All2 (Dn ρ as) vs Vs):All2 (Dn ρ' as') us Vs:=hY (R:=Dn ρ as) (R':=Dn ρ' as') (fun zw zw zw zw=>bS hm) e o x
theorem FI {g:Gr} {a:Addr} {o:AO} {vs:List AV} (e:o.sq? = some vs) (x:aO ρ as g a o):aO ρ as g a (.lst vs):=by
 unfold AO.sq? at e
 induction q:o.pl? with
 | none=>rw [q] at e; rw [cB e] at x; exact x
 | some us=>rw [q] at e; rw [kK q,aF e] at x; exact x.pl
theorem aC.f {h:Heap} {a:Addr} {o:AO} (e:o.isF=true) (x:aC ρ O as h a o):aO ρ as h.get? a o:=by induction o using AO.casesOn <;> first | exact x | exact bH e
theorem bL (hm:Mp mp as as') {g:Gr} {a:Addr} {o u:AO} {l:List Ob1} (e:fF mp o u=some l) (ob:bE ρ ρ' l) (x:aO ρ as g a o):aO ρ' as' g a u:=by
 induction u using AO.casesOn with
 | lst us=>obtain ⟨vs,e1,e⟩:=az e; obtain ⟨Vs,y,z⟩:=FI e1 x; exact ⟨Vs,jI hm e ob y,z⟩
 | tup us=>obtain ⟨vs,e1,e⟩:=az e; rw [cY e1] at x; obtain ⟨Vs,y,z⟩:=x; exact ⟨Vs,jI hm e ob y,z⟩
 | pl us=>obtain ⟨vs,e1,e⟩:=az e; rw [kK e1] at x; obtain ⟨Vs,y,z⟩:=x; exact ⟨Vs,jI hm e ob y,z⟩
 | ns us=>obtain ⟨vs,e1,e⟩:=az e; rw [nY e1] at x; obtain ⟨Vs,y,z⟩:=x; exact ⟨Vs,hY (R:=Nm ρ as) (R':=Nm ρ' as') (uq hm) e ob y,z⟩
 | dc us=>obtain ⟨vs,e1,e⟩:=az e; rw [sG e1] at x; obtain ⟨Vs,y,z⟩:=x; exact ⟨Vs,hY (R:=Kv ρ as) (R':=Kv ρ' as') (uq hm) e ob y,z⟩
 | inst D j =>
  apply bc;intro ng
  obtain ⟨q,e1,e⟩:=az e
  rw [oD e1] at x
  obtain ⟨dx,y,z⟩:=x
  apply ng;clear ng
  exact ⟨dx,hm _ _ (aD (au (dK e))) _ y,aD (ag (dK e))▸z⟩
 | cell u =>
  apply bc;intro ng
  obtain ⟨v,e1,e⟩:=az e
  rw [jR e1] at x
  obtain ⟨V,y,z⟩:=x
  apply ng;clear ng
  refine ⟨V,?_,z⟩
  induction u with
  | none=>trivial
  | some u =>
   apply bc;intro ng
   obtain ⟨v,hv,e⟩:=az e
   rw [hv] at y
   obtain ⟨y,hV,d⟩:=y
   apply ng;clear ng
   exact ⟨y,hV,bS hm e ob d⟩
 | il b' es' =>
  have e:(match o.il? with | some q=>some [Ob1.il q.1 q.2 b' es'] | none=>(o.pl?.bind gQ).map fun es=>[Ob1.ii es b' es'])=some l:=e
  induction q:o.il? with
  | some p =>
   rw [q] at e
   rw [ph q] at x
   rw [<- aF e] at ob
   obtain ⟨Vs,y,z⟩:=x; exact ⟨Vs,(show _=_ from ob)▸y,z⟩
  | none =>
   rw [q] at e
   apply bc;intro ng
   obtain ⟨es,e1,e⟩:=gU e
   obtain ⟨vs,e1,e2⟩:=az e1
   rw [<- e] at ob
   rw [kK e1] at x
   obtain ⟨Vs,y,z⟩:=x
   apply ng;clear ng
   exact ⟨Vs,(show _=_ from ob)▸gJ e2 y,z⟩
 | raw u =>
  apply bc;intro ng
  obtain ⟨t,e1,e⟩:=gU e
  apply ng;clear ng
  rw [BE e1] at x
  rw [<- e] at ob
  exact (show t=u from ob)▸x
 | rf b' =>
  apply bc;intro ng
  obtain ⟨b,e1,e⟩:=gU e
  apply ng;clear ng
  rw [mq e1] at x
  rw [<- e] at ob
  have ob:ρ.l b=ρ'.l b':=ob
  have x:At g a (.pl ((ρ.l b).map ak)):=x
  rw [ob] at x; exact x
 | opq _=>exact ap e
 | lit _ _=>exact ap e
 | tit _ _=>exact ap e
 | dead=>exact ap e
 | fz _=>exact ap e
theorem ss {o:AO} {c:Bool} {j m:Nat} {l:List Ob1} (e:Hu mp c o j m=some l):∃i n,o=Ah c i n/\mp i=some j/\l = [.nat n m]:=by
 apply bc;intro ng
 obtain ⟨q,e1,e⟩:=az e
 apply ng;clear ng
 have e:(match c == q.1 && mp q.2.1 == some j with | true=>some [Ob1.nat q.2.2 m] | false=>none)=some l:=e
 induction z:c == q.1 && mp q.2.1 == some j with
 | true=>rw [z] at e; exact ⟨q.2.1,q.2.2,aD (ag z)▸zA e1,aD (au z),(aF e).symm⟩
 | false=>rw [z] at e; exact ap e
theorem BU (hm:Mp mp as as') {h:Heap} {a:Addr} {o u:AO} {l:List Ob1} (e:GC mp o u=some l) (ob:bE ρ ρ' l) (x:aC ρ O as h a o):aC ρ' O as' h a u/\(u.own=true->o.own=true):=by
 have key:∀{u:AO},(match o.isF with | true=>fF mp o u | false=>none)=some l->aC ρ' O as' h a u/\(u.own=true->o.own=true):=by
  intro u e
  induction q:o.isF with
  | true=>rw [q] at e; exact ⟨aO.at (G:=h.get?) (fun zw e=>e) (bL hm e ob (x.f q)),fun zw=>by induction o using AO.casesOn <;> first | rfl | exact bH q⟩
  | false=>rw [q] at e; exact ap e
 induction u using AO.casesOn with
 | dead=>exact ⟨trivial,fun z=>bH z⟩
 | opq k=>obtain ⟨i,e1,e⟩:=az e; rw [sI e1,aD (dK e)] at x; exact ⟨x,fun z=>bH z⟩
 | fz u=>obtain ⟨o',e1,e⟩:=az e; rw [Gq e1] at x; exact ⟨bL hm e ob x,fun z=>bH z⟩
 | lit j m =>
  apply bc;intro ng
  obtain ⟨i,n,ho,e1,hl⟩:=ss e
  apply ng;clear ng
  rw [ho] at x ⊢
  rw [hl] at ob
  apply bc;intro ng
  obtain ⟨la,y,z⟩:=x
  apply ng;clear ng
  exact ⟨⟨la,hm _ _ e1 _ y,(show n=m from ob)▸z⟩,fun z=>z⟩
 | tit j m =>
  apply bc;intro ng
  obtain ⟨i,n,ho,e1,hl⟩:=ss e
  apply ng;clear ng
  rw [ho] at x ⊢
  rw [hl] at ob
  apply bc;intro ng
  obtain ⟨la,y,z⟩:=x
  apply ng;clear ng
  exact ⟨⟨la,hm _ _ e1 _ y,(show n=m from ob)▸z⟩,fun z=>z⟩
 | _=>exact key e
end
noncomputable def cH (mp:Nat->Option Nat) (ob:List AO):List Nat->List AO->Option (List Ob1)
 | [],us=>(match us with | []=>some [] | _::_=>none)
 | j::m,us=>(match us with | []=>none | u::us=>(ob[j]?).bind fun o=>(GC mp o u).bind fun l=>(cH mp ob m us).map (l++·))
noncomputable def yI (mp:Nat->Option Nat) (ls:List (Str×AV)):List (Str×AV)->Option (List Ob1)
 | []=>some []
 | p::us=>(ls.lookup p.1).bind fun v=>(uS mp v p.2).bind fun l=>(yI mp ls us).map (l++·)
section
variable {mp:Nat->Option Nat} {l1 l2:List Ob1}
theorem oJ {i j:Nat} (e:mp i=some j):uS mp (.loc i) (.loc j)=some []:=mK e
theorem iA {α:Type} {f:α->α->Option (List Ob1)} {v u:α} {vs us:List α} (e1:f v u=some l1) (e2:ox f vs us=some l2):ox f (v::vs) (u::us)=some (l1++l2):=by
 show ((f v u).bind fun l=>(ox f vs us).map (l++·))=_
 refine aa e1 (aa e2 ?_); rfl
theorem gA {ob:List AO} {j:Nat} {m:List Nat} {o u:AO} {us:List AO} (e0:ob[j]? = some o) (e1:GC mp o u=some l1) (e2:cH mp ob m us=some l2):cH mp ob (j::m) (u::us)=some (l1++l2):=by
 show ((ob[j]?).bind fun o=>(GC mp o u).bind fun l=>(cH mp ob m us).map (l++·))=_
 rw [e0,Option.bind_some,e1,e2]; rfl
theorem Em {C:Addr} {i j:Nat} (e:mp i=some j):fF mp (.inst C i) (.inst C j)=some []:=by
 show ku (C == C && mp i == some j)=_
 rw [e,beq_self_eq_true,beq_self_eq_true]; rfl
end
noncomputable def eX (m:List Nat) (i:Nat):Option Nat:=m.idxOf? i
noncomputable def l8 (mp:Nat->Option Nat) (cl cl':List (Str×Nat)):Bool:=cl'.all fun x=>(cl.lookup x.1).bind mp == some x.2
noncomputable def aN (m:List Nat) (s s':St):Option (List Ob1):=match decide m.Nodup && s'.pc.isEmpty && l8 (eX m) s.cl s'.cl with
 | true=>(cH (eX m) s.ob m s'.ob).bind fun l=>(yI (eX m) s.ls s'.ls).map (l++·)
 | false=>none
section
variable {w:World} {ρ ρ':Rho} {O:Opq} {G:Gr} {env:Env} {h h':Heap} {s s':St} {as:List Addr}
theorem All2.rget {α β:Type} {R:α->β->Prop} {l:List α} {m:List β} (x:All2 R l m):∀{i:Nat} {b:β},m[i]? = some b->∃a,l[i]? = some a/\R a b:=by
 induction x with
 | nil=>intro i b e; exact ap e
 | cons h _ ih =>
  intro i b e
  induction i using Nat.casesOn with
  | zero=>exact ⟨_,rfl,aF e▸h⟩
  | succ i=>exact ih e
theorem eI {mp:Nat->Option Nat} {ob:List AO} {as':List Addr} (hm:Mp mp as as') (sz:as.length=ob.length) (hob:∀(i:Nat) o a,ob[i]? = some o->as[i]? = some a->aC ρ O as h a o):∀{m:List Nat} {us:List AO} {l:List Ob1},cH mp ob m us=some l->bE ρ ρ' l->
  m.length=us.length/\∀(i:Nat) u,us[i]? = some u->∃j o a,m[i]? = some j/\ob[j]? = some o/\as[j]? = some a/\aC ρ' O as' h a u/\(u.own=true->o.own=true):=by
 intro m
 induction m with
 | nil =>
  intro us l e o
  induction us using List.casesOn with
  | nil=>exact ⟨rfl,fun i u e=>ap e⟩
  | cons _ _=>exact ap e
 | cons j m ih =>
  intro us l e o
  induction us using List.casesOn with
  | nil=>exact ap e
  | cons u us =>
   apply bc;intro ng
   obtain ⟨o1,eo,e⟩:=az e
   obtain ⟨l1,e1,e⟩:=az e
   obtain ⟨l2,e2,e⟩:=gU e
   rw [<- e] at o
   obtain ⟨i1,i2⟩:=ih e2 (bE.app.mp o).2
   apply ng;clear ng
   refine ⟨congrArg Nat.succ i1,fun i u' eu=>?_⟩
   induction i using Nat.casesOn with
   | zero =>
    have hl:as[j]? = some (as[j]'(sz▸(List.getElem?_eq_some_iff.mp eo).1)):=List.getElem?_eq_getElem _
    exact ⟨j,o1,_,rfl,eo,hl,aF eu▸BU hm e1 (bE.app.mp o).1 (hob j o1 _ eo hl)⟩
   | succ i=>exact i2 i u' eu
theorem yw {mp:Nat->Option Nat} {ls:List (Str×AV)} {as':List Addr} {f:Str->Option Value} (hm:Mp mp as as') (hl:∀x v,ls.lookup x=some v->∃V,f x=some V/\Dn ρ as v V):∀{us:List (Str×AV)} {l:List Ob1},yI mp ls us=some l->bE ρ ρ' l->
  ∀x v,us.lookup x=some v->∃V,f x=some V/\Dn ρ' as' v V:=by
 intro us
 induction us with
 | nil=>intro _ _ _ x v e; exact ap e
 | cons p us ih =>
  intro l e o x v' e'
  apply bc;intro ng
  obtain ⟨v,ev,e⟩:=az e
  obtain ⟨l1,e1,e⟩:=az e
  obtain ⟨l2,e2,e⟩:=gU e
  apply ng;clear ng
  rw [<- e] at o
  have e':(match x == p.1 with | true=>some p.2 | false=>us.lookup x)=some v':=e'
  induction q:x == p.1 with
  | true =>
   rw [q] at e'
   apply bc;intro ng
   obtain ⟨V,z1,z2⟩:=hl p.1 v ev
   apply ng;clear ng
   exact ⟨V,(congrArg f (aD q)).trans z1,aF e'▸bS hm e1 (bE.app.mp o).1 z2⟩
  | false=>rw [q] at e'; exact ih e2 (bE.app.mp o).2 x v' e'
theorem bG {as:List Addr} {j:Nat} {a:Addr} (e:as[j]? = some a):as.getD j 0=a:=by refine aa (List.getD_eq_getElem?_getD) (aa e ?_); rfl
theorem dw {m:List Nat} {as':List Addr} (h':as'=m.map fun j=>as.getD j 0):Mp (eX m) as as':=by
 intro i j e x ex
 have hi:m[j]? = some i:=by
  obtain ⟨h1,h2⟩:=List.findIdx?_eq_some_iff_getElem.mp e
  refine aa (List.getElem?_eq_getElem h1) ?_
  exact congrArg some (aD h2.1)
 refine aa h' (aa (List.getElem?_map) (aa hi ?_))
 exact congrArg some (bG ex)
theorem AG {α:Type} {cl:List (Str×α)} {x:Str} {i:α} (e:cl.lookup x=some i):(x,i)∈cl:=by
 induction cl with
 | nil=>exact ap e
 | cons p r ih =>
  have e:(match x == p.1 with | true=>some p.2 | false=>r.lookup x)=some i:=e
  induction q:x == p.1 with
  | true=>rw [q] at e; refine aa (aD q) (aa (Eq.symm (aF e)) ?_); exact .head _
  | false=>rw [q] at e; exact .tail _ (ih e)
theorem r6 {mp:Nat->Option Nat} {cl cl':List (Str×Nat)} (h:l8 mp cl cl'=true) {x:Str} {i:Nat} (e:cl'.lookup x=some i):∃j,cl.lookup x=some j/\mp j=some i :=
 az (aD (List.all_eq_true.mp h _ (AG e)))
structure ReTab (ρ ρ':Rho) (O:Opq) (h:Heap) (s s':St) (as:List Addr) (m:List Nat) (as':List Addr):Prop where
 pc:s'.pc = []
 cl:l8 (eX m) s.cl s'.cl=true
 mp:Mp (eX m) as as'
 sz:as'.length=s'.ob.length
 ob:∀(i:Nat) u a,s'.ob[i]? = some u->as'[i]? = some a->∃j o,m[i]? = some j/\s.ob[j]? = some o/\as[j]? = some a/\aC ρ' O as' h a u/\(u.own=true->o.own=true)
 nd:(∀(i j:Nat) o o' a,s.ob[i]? = some o->s.ob[j]? = some o'->o.own=true->o'.own=true->as[i]? = some a->as[j]? = some a->i=j)->
  ∀(i j:Nat) u u' a,s'.ob[i]? = some u->s'.ob[j]? = some u'->u.own=true->u'.own=true->as'[i]? = some a->as'[j]? = some a->i=j
 ls:∀{f:Str->Option Value},(∀x v,s.ls.lookup x=some v->∃V,f x=some V/\Dn ρ as v V)->∀x v,s'.ls.lookup x=some v->∃V,f x=some V/\Dn ρ' as' v V
theorem tf (sz:as.length=s.ob.length) (hob:∀(i:Nat) o a,s.ob[i]? = some o->as[i]? = some a->aC ρ O as h a o) (m:List Nat) {l:List Ob1} (e:aN m s s'=some l) (o:bE ρ ρ' l) : ReTab ρ ρ' O h s s' as m (m.map fun j=>as.getD j 0):=by
 have e:(match decide m.Nodup && s'.pc.isEmpty && l8 (eX m) s.cl s'.cl with | true=>(cH (eX m) s.ob m s'.ob).bind fun l=>(yI (eX m) s.ls s'.ls).map (l++·) | false=>none)=some l:=e
 induction c:decide m.Nodup && s'.pc.isEmpty && l8 (eX m) s.cl s'.cl with
 | false=>rw [c] at e; exact ap e
 | true =>
  rw [c] at e
  apply bc;intro ng
  obtain ⟨l1,e1,e⟩:=az e
  obtain ⟨l2,e2,e⟩:=gU e
  rw [<- e] at o
  have hm:=dw (as:=as) (m:=m) rfl
  obtain ⟨t1,t2⟩:=eI hm sz hob e1 (bE.app.mp o).1
  apply ng;clear ng
  have get:∀(i:Nat) u a,s'.ob[i]? = some u->(m.map fun j=>as.getD j 0)[i]? = some a->∃j o,m[i]? = some j/\s.ob[j]? = some o/\as[j]? = some a/\aC ρ' O (m.map fun j=>as.getD j 0) h a u/\(u.own=true->o.own=true):=fun i u a eu ea=>by
   apply bc;intro ng
   obtain ⟨j,o,a',x1,x2,x3,x4⟩:=t2 i u eu
   apply ng;clear ng
   rw [List.getElem?_map,x1] at ea
   have ea:a'=a:=(bG x3).symm.trans (aF ea)
   exact ⟨j,o,x1,x2,ea▸x3,ea▸x4⟩
  refine ⟨List.isEmpty_iff.mp (au (ag c)),au c,hm,(List.length_map _).trans t1,get,fun nd i i' u u' a eu eu' w1 w2 ea ea'=>?_,fun hl=>yw hm hl e2 (bE.app.mp o).2⟩
  apply bc;intro ng
  obtain ⟨j,o,x1,x2,x3,x4,x5⟩:=get i u a eu ea
  obtain ⟨j',o',y1,y2,y3,y4,y5⟩:=get i' u' a eu' ea'
  apply ng;clear ng
  have q:=nd j j' o o' a x2 y2 (x5 w1) (y5 w2) x3 y3
  exact (List.getElem?_inj (List.getElem?_eq_some_iff.mp x1).1 (of_decide_eq_true (ag (ag c)))).mp (x1.trans ((congrArg some q).trans y1.symm))
theorem SR.re (S:SR w ρ O G env h s as) (m:List Nat) {l:List Ob1} (e:aN m s s'=some l) (o:bE ρ ρ' l):SR w ρ' O G env h s' (m.map fun j=>as.getD j 0):=by
 have T:=tf S.sz (fun i o a e e'=>(S.ob i o a e e').1) m e o
 obtain ⟨f,N,hl⟩:=S.lc
 refine ⟨S.bs,S.kp,S.og,S.fL,S.eg,S.eb,S.ek,⟨f,N,T.ls hl⟩,fun x i e=>?_,T.sz,fun i u a eu ea=>?_,T.nd S.nd,fun p hp=>by rw [T.pc] at hp; cases hp⟩
 ·obtain ⟨j,ej,ji⟩:=r6 T.cl e
  obtain ⟨a,a1,a2⟩:=S.cc x j ej
  exact ⟨a,T.mp _ _ ji _ a1,a2⟩
 ·obtain ⟨j,o,x1,x2,x3,x4,x5⟩:=T.ob i u a eu ea
  exact ⟨x4,fun ow=>(S.ob j o a x2 x3).2 (x5 ow)⟩
theorem Co.re {pc:List (CE×Bool)} (S:Co w ρ O G h s.ob pc as) (m:List Nat) {l:List Ob1} (e:aN m s s'=some l) (o:bE ρ ρ' l):Co w ρ' O G h s'.ob [] (m.map fun j=>as.getD j 0):=by
 have T:=tf S.sz (fun i o a e e'=>(S.ob i o a e e').1) m e o
 refine ⟨S.bs,S.kp,S.og,T.sz,fun i u a eu ea=>?_,T.nd S.nd,fun p hp=>nomatch hp⟩
 apply bc;intro ng
 obtain ⟨j,o,x1,x2,x3,x4,x5⟩:=T.ob i u a eu ea
 apply ng;clear ng
 exact ⟨x4,fun ow=>(S.ob j o a x2 x3).2 (x5 ow)⟩
theorem SR.join (S:SR w ρ O G env h s as) {as2:List Addr} {us:List AO} (x:All2 (fun a u=>aO ρ (as++as2) O.g a u) as2 us):SR w ρ O G env h { s with ob:=s.ob++us.map .fz } (as++as2):=by
 have pp:aM as (as++as2):=⟨_,rfl⟩
 have cs:∀(i:Nat) o a,(s.ob++us.map AO.fz)[i]? = some o->(as++as2)[i]? = some a->(s.ob[i]? = some o/\as[i]? = some a)\/∃u,o = .fz u/\aO ρ (as++as2) O.g a u:=fun i o a e e'=>by
  by_cases hi:i < s.ob.length
  ·rw [List.getElem?_append_left hi] at e
   rw [List.getElem?_append_left (by refine aa S.sz ?_; exact hi)] at e'
   exact .inl ⟨e,e'⟩
  ·rw [List.getElem?_append_right (by (first | lia | omega)),List.getElem?_map] at e
   rw [List.getElem?_append_right (by refine aa S.sz ?_; (first | lia | omega)),S.sz] at e'
   apply bc;intro ng
   obtain ⟨u,z1,z2⟩:=x.get e'
   apply ng;clear ng
   rw [z1] at e; cases e
   exact .inr ⟨u,rfl,z2⟩
 apply bc;intro ng
 obtain ⟨f,N,hl⟩:=S.lc
 apply ng;clear ng
 refine ⟨S.bs,S.kp,S.og,S.fL,S.eg,S.eb,S.ek,⟨f,N,fun x v e=>let ⟨V,z1,z2⟩:=hl x v e; ⟨V,z1,z2.pre pp⟩⟩,fun x i e=>let ⟨a,z1,z2⟩:=S.cc x i e; ⟨a,pp.get z1,z2⟩,by simp [S.sz,x.len],fun i o a e e'=>?_,fun i i' o o' a e1 e2 w1 w2 e3 e4=>?_,S.pc⟩
 ·rcases cs i o a e e' with ⟨f1,f2⟩ | ⟨u,rfl,z⟩
  ·obtain ⟨x,y⟩:=S.ob i o a f1 f2
   exact ⟨x.keep pp fun zw zw ex=>ex,y⟩
  ·exact ⟨z,fun z=>by exact bH z⟩
 ·rcases cs i o a e1 e3 with ⟨f1,f2⟩ | ⟨u,rfl,z⟩
  ·rcases cs i' o' a e2 e4 with ⟨g1,g2⟩ | ⟨u',rfl,z'⟩
   ·exact S.nd i i' o o' a f1 g1 w1 w2 f2 g2
   ·exact bH w2
  ·exact bH w1
end
noncomputable def wV:Ob1->Bool | .ie a b=>a.same b | .rf a b=>a == b | .nat a b=>a == b | .il b es b' es'=>b == b' && yD IE.same es es' | _=>false
theorem gf {ρ:Rho}:∀{l:List Ob1},l.all wV=true->bE ρ ρ l
 | [],_=>trivial
 | o::r,h=>by
  rw [List.all_cons,Bool.and_eq_true] at h
  refine bE.cons.mpr ⟨?_,gf h.2⟩
  have h:=h.1
  cases o <;> try (cases h)
  ·have h:=IE.same_ok h; subst h; rfl
  ·exact eq_of_beq h
  ·have h:=Bool.and_eq_true_iff.mp h
   have h1:=eq_of_beq h.1
   have h2:=j6 (fun zw zw=>IE.same_ok) _ _ h.2
   subst h1 h2; rfl
  ·have h:=eq_of_beq h; subst h; rfl
noncomputable def AE (ob:List AO):Bool:=(cH (eX [0,1,2]) ob [0,1,2] bl).any fun l=>l.all wV
noncomputable def Ll (a:Addr):Nat:=if a == 763 then 1 else if a == 770 then 2 else 3
noncomputable def vD:Hk:=fun a args ob=>(d9 args).bind fun p=>p.1.l?.bind fun i=>p.2.i?.bind fun e=>if (a == 763 || a == 770 || a == 777) && (AE ob && i == 1) then some ([.le (.c 97) e,.le e (.c 99)],.int (.fn (Ll a) e (.c 0) (.c 0)),ob) else none
noncomputable def aZ (P:Params) (a:Addr):FnI:=(dL P a).getD ⟨⟨[],[],none,[],[],none,[]⟩,[],default,[]⟩
noncomputable def al (P:Params) (a:Addr):List Stmt:=(aZ P a).body
noncomputable def bp (P:Params) (a:Addr):Scope:=(aZ P a).scope
noncomputable def bg:Stmt->List Stmt | .For _ _ b _ _=>b | .While _ b _ _=>b | .If _ b _ _=>b | _=>[]
noncomputable def aR:Stmt->Expr | .For _ it _ _ _=>it | .While t _ _ _=>t | .If t _ _ _=>t | .Return (some e) _=>e | .Assign _ e _=>e | .Expr e _=>e | _=>.Constant .none 0 default
noncomputable def bj:Expr->Str | .Name x _=>x | _=>Str.ofString ""
noncomputable def aS:Expr->Pos | .Name _ p=>p | _=>default
noncomputable def cy:Stmt->Expr | .For x _ _ _ _=>x | _=>.Constant .none 0 default
section
variable {w:World} {ρ:Rho} {O:Opq} {d:Nat} {A:Around} {gs:Array GenState} {dr:Drawn} {os:OsState} {G:Gr} {env:Env} {hk:Hk}
theorem Co.pcs {h:Heap} {ob:List AO} {pc:List (CE×Bool)} {as:List Addr} (S:Co w ρ O G h ob pc as):Co w ρ O G h ob [] as:=⟨S.bs,S.kp,S.og,S.sz,S.ob,S.nd,fun zw m=>nomatch m⟩
theorem LG {n0:Nat} {r0:Nat} (H:ay w ρ O hk r0) {f:Addr} {args:List AV} {ob:List AO} {t:Tr} (e:sx w.params hk n0 f args ob=t) {h:Heap} {n:Nat} {as:List Addr} {Us:List Value} {Q:Value->Shared->Prop} {Er:Value->Shared->Prop} (R:Room A (n0 + r0))
  (S:Co w ρ O G h ob [] as) (da:All2 (Dn ρ as) args Us)
  (y:t.ok ρ fun f s=>∀v V h' as' n',f = .rt v->Co w ρ O G h' s.ob [] as'->aM as as'->Dn ρ as' v V->Q V ⟨h',gs,dr,n',os⟩):wpAny (model pr w) A (call (.ref f) Us) Q Er ⟨h,gs,dr,n,os⟩:=by
 rw [<- e] at y
 exact (fZ H n0).C (s:=⟨[],[],ob,[]⟩) R y S rfl da fun v V s' h' as' n' zw zw y C p d=>y v V h' as' n' rfl C.pcs p d
theorem Dh {n0:Nat} {r0:Nat} (H:ay w ρ O hk r0) {bs:List Stmt} {s:St} {t:Tr} (e:A1 w.params hk n0 env.scope bs s=t) {h:Heap} {n:Nat} {as:List Addr} {Q:Flow->Shared->Prop} {Er:Value->Shared->Prop} (R:Room A (n0 + r0))
  (S:SR w ρ O G env h s as)
  (y:t.ok ρ fun f s=>∀F h' as' n',SR w ρ O G env h' s as'->aM as as'->lN ρ as' f F->Q F ⟨h',gs,dr,n',os⟩):wpAny (model pr w) A (execs bs env) Q Er ⟨h,gs,dr,n,os⟩:=by
 rw [<- e] at y
 exact cj (fZ H n0) R y S fun fl F s' h' as' n' y S' p df=>y F h' as' n' (S'.pcs fun zw m=>nomatch m) p df
theorem aH {M:Model} {A:Around} {env:Env} {rest:List Stmt} {Q:Flow->Shared->Prop} {Er:Value->Shared->Prop} {bs:List Stmt} {s:Shared} (h:wpAny M A (execs bs env) (fun F s'=>match F with | .next=>wpAny M A (execs rest env) Q Er s' | F=>Q F s') Er s) :
  wpAny M A (execs (bs++rest) env) Q Er s:=fun Γ p hΓ=>by
 have key:∀(bs:List Stmt) (p:Pos) (s:Shared),Sem.wp M Γ (execs bs env) (fun F zw s'=>match F with | .next=>wpAny M A (execs rest env) Q Er s' | F=>Q F s') (fun e zw s'=>Er e s') p s->Sem.wp M Γ (execs (bs++rest) env) (fun F zw s'=>Q F s') (fun e zw s'=>Er e s') p s:=by
  intro bs
  induction bs with
  | nil=>intro p s h; exact h Γ p hΓ
  | cons b r ih =>
   intro p s h
   rw [execs_cons,Sem.wp_bind'] at h
   rw [List.cons_append,execs_cons,Sem.wp_bind']
   refine Sem.wp_mono M Γ _ (fun f p' s' h'=>?_) (fun zw zw zw h'=>h') _ _ h
   cases f <;> first | exact ih p' s' h' | exact h'
 exact key bs p s (h Γ p hΓ)
def Fx (fx:List (Nat×Addr)) (as:List Addr):Prop:=∀p∈fx,as[p.1]? = some p.2
theorem go {d:Nat} {a:Addr} {fi:FnI} {args:List AV} {ls:List (Str×AV)} {ob:List AO} {h:Heap} {n:Nat} {as:List Addr} {Us:List Value} {Q:Value->Shared->Prop} {Er:Value->Shared->Prop} (hR:Room A (d + 1))
  (hfi:dL w.params a=some fi) (hb:aQ fi args=some ls) (S:Co w ρ O G h ob [] as) (da:All2 (Dn ρ as) args Us)
  (q:∀A' env h' n' as',Room A' d->env.scope=fi.scope->aM as as'->
   SR w ρ O G env h' ⟨ls.reverse.filter (fun x=>decide (fi.scope.names.lookup x.1=some .local)),(ae fi.scope.names).zip ((List.range (ae fi.scope.names).length).map (ob.length + ·)),ob++(ae fi.scope.names).map (fun n=>.cell (ls.reverse.lookup n)),[]⟩ as'->
   ∀E',wpAny (model pr w) A' (execs fi.body env) (fun fl s'=>Q (match fl with | .ret v=>v | _=>.none) s') E' ⟨h',gs,dr,n',os⟩) :
  wpAny (model pr w) A (call (.ref a) Us) Q Er ⟨h,gs,dr,n,os⟩ :=
 wpAny_call (zE (by have:=hR.dp; omega) (fun env=>hR.deeper env) hfi hb S da q)
end
section
set_option backward.match.sparseCases false
inductive VC
 | ok (l:List Ob1) | br (c:CE) (a b:VC) | req (c:CE) (t:VC) | fail
def VC.den (ρ ρ':Rho):VC->Prop
 | .ok l=>bE ρ ρ' l
 | .br c a b=>(c.den ρ->a.den ρ ρ')/\(¬c.den ρ->b.den ρ ρ')
 | .req c t=>c.den ρ/\t.den ρ ρ'
 | .fail=>False
noncomputable def gV (m:List Nat):Fl->Fl->Option (List Ob1)
 | .nx,.nx=>some []
 | .nx,.ct=>some []
 | .ct,.ct=>some []
 | .rt v,.rt u=>uS (eX m) v u
 | _,_=>none
noncomputable def pe (x:Option (List Ob1×List Ob1)):VC:=match x with | some p=>.ok (p.1++p.2) | none=>.fail
theorem lF {ρ ρ':Rho} {x:Option (List Ob1×List Ob1)} (y:(pe x).den ρ ρ'):∃p,x=some p/\bE ρ ρ' p.1/\bE ρ ρ' p.2:=by
 induction x with
 | none=>exact y.elim
 | some p=>exact ⟨p,rfl,bE.app.mp y⟩
noncomputable def Tr.vc (m:List Nat) (f':Fl) (s':St):Tr->VC
 | .leaf f s=>pe (aq (gV m f f') (aN m s s'))
 | .br c a b=>.br c (a.vc m f' s') (b.vc m f' s')
 | .req c t=>.req c (t.vc m f' s')
 | .fail=>.fail
theorem cV {ρ ρ':Rho} {m:List Nat} {f':Fl} {s':St}:∀{t:Tr},(t.vc m f' s').den ρ ρ'->t.ok ρ fun f s=>∃l0 l,gV m f f'=some l0/\bE ρ ρ' l0/\aN m s s'=some l/\bE ρ ρ' l
 | .leaf f s,y=>by
  obtain ⟨p,e,y1,y2⟩:=lF (x:=aq (gV m f f') (aN m s s')) y
  exact ⟨p.1,p.2,(ah e).1,y1,(ah e).2,y2⟩
 | .br c a b,y=>⟨fun h=>cV (y.1 h),fun h=>cV (y.2 h)⟩
 | .req c t,y=>⟨y.1,cV y.2⟩
 | .fail,y=>y
noncomputable def GL (P:Params) (hk:Hk) (n:Nat) (sc:Scope) (x:Str) (v:AV) (body:List Stmt) (s:St):Tr:=bZ sc x v s fun s=>qm (run P hk n) sc body s fun f s=>.leaf f { s with pc:=[] }
section
variable {w:World} {ρ ρ':Rho} {O:Opq} {d:Nat} {A:Around} {gs:Array GenState} {dr:Drawn} {os:OsState} {G:Gr} {env:Env} {hk:Hk}
theorem yN {n0:Nat} {r0:Nat} (H:ay w ρ O hk r0) {x:Str} {v:AV} {V:Value} {body:List Stmt} {s s':St} {vc:VC} {m:List Nat} (e:(GL w.params hk n0 env.scope x v body s).vc m .ct s'=vc) {h:Heap} {n:Nat} {as:List Addr} {Q:Flow->Shared->Prop} {E1 E2:Value->Shared->Prop} (R:Room A (n0 + r0))
  (S:SR w ρ O G env h s as) (dv:Dn ρ as v V) (y:vc.den ρ ρ')
  (q:∀F h' as' n',(F = .next\/F = .cont)->SR w ρ' O G env h' s' (m.map fun j=>as'.getD j 0)->aM as as'->Q F ⟨h',gs,dr,n',os⟩) :
  wpAny (model pr w) A (storeName env x V) (fun zw s₂=>wpAny (model pr w) A (execs body env) Q E1 s₂) E2 ⟨h,gs,dr,n,os⟩:=by
 rw [<- e] at y
 have y:=cV y
 unfold GL at y
 refine aW y S dv fun s2 h2 n2 y S2=>?_
 refine cj (fZ H n0) R y S2 fun fl F s3 h3 as3 n3 y S3 p3 df=>?_
 apply bc;intro ng
 obtain ⟨l0,l,y1,y2,y3,y4⟩:=y
 apply ng;clear ng
 refine q F h3 as3 n3 ?_ ((S3.pcs (pc:=[]) fun zw m=>nomatch m).re m y3 y4) p3
 induction fl with
 | nx=>exact .inl df
 | ct=>exact .inr df
 | rt v=>exact ap y1
 | bk=>exact ap y1
end
noncomputable def fW (c:Int):Int:=if c=97 then 5 else if c=98 then 11 else 4
noncomputable def fH (c:Int):Int:=if c=97 then 7 else if c=98 then 3 else 1
noncomputable def fD (c:Int):Int:=if c=97 then 2 else if c=98 then 0 else 9
noncomputable def ff (k:Nat) (a b c:Int):Int:=match k with | 1=>fW a | 2=>fH a | 3=>fD a | _=>0
set_option genCtorIdx true in
inductive Nk | chr | skp | krn | box2 | box3 | pck | rul | rul4 | dsc0 | dsc1 | dsc2 | pen | mth
structure Nd where
 k:Nk
 a:List Int
noncomputable def Nk.T (b q:Nat):Nk->List AO
 | .chr=>[.ns [(S' "code",.int (.v q)),(S' "font",.loc 1)],.inst 368 b]
 | .skp=>[.ns [(S' "shrink_order",.int (.v (q + 4))),(S' "shrink",.int (.v (q + 3))),(S' "stretch_order",.int (.v (q + 2))),(S' "stretch",.int (.v (q + 1))),(S' "width",.int (.v q))],.inst 246 b,
   .ns [(S' "leader",.none),(S' "sort",.int (.c 0)),(S' "glue",.loc (b + 1))],.inst 453 (b + 2)]
 | .krn=>[.ns [(S' "sort",.int (.v (q + 1))),(S' "width",.int (.v q))],.inst 431 b]
 | .box2=>[.tup [.int (.c 0),.int (.c 1)],.lst [],.ns [(S' "ratio",.loc b),(S' "order",.int (.c 0)),(S' "sign",.int (.c 0)),(S' "shift",.int (.v (q + 3))),(S' "items",.loc (b + 1)),(S' "depth",.int (.v (q + 2))),(S' "height",.int (.v (q + 1))),(S' "width",.int (.v q)),(S' "kind",.int (.c 2))],.inst 389 (b + 2)]
 | .box3=>[.tup [.int (.c 0),.int (.c 1)],.lst [],.ns [(S' "ratio",.loc b),(S' "order",.int (.c 0)),(S' "sign",.int (.c 0)),(S' "shift",.int (.v (q + 3))),(S' "items",.loc (b + 1)),(S' "depth",.int (.v (q + 2))),(S' "height",.int (.v (q + 1))),(S' "width",.int (.v q)),(S' "kind",.int (.c 3))],.inst 389 (b + 2)]
 | .pck=>[.ns [(S' "ratio",.any),(S' "order",.any),(S' "sign",.any),(S' "shift",.int (.v (q + 3))),(S' "items",.any),(S' "depth",.int (.v (q + 2))),(S' "height",.int (.v (q + 1))),(S' "width",.int (.v q)),(S' "kind",.int (.c 2))],.inst 389 b]
 | .rul=>[.ns [(S' "depth",.none),(S' "height",.none),(S' "width",.int (.v q))],.inst 410 b]
 | .rul4=>[.ns [(S' "depth",.int (.c 4)),(S' "height",.none),(S' "width",.int (.v q))],.inst 410 b]
 | .dsc0=>dsc b q 0
 | .dsc1=>dsc b q 1
 | .dsc2=>dsc b q 2
 | .pen=>[.ns [(S' "value",.int (.v q))],.inst 474 b]
 | .mth=>[.ns [(S' "width",.int (.v q)),(S' "is_on",.bool false)],.inst 516 b]
where dsc (b q m:Nat):List AO:=[.ns [(S' "code",.int (.c 97)),(S' "font",.loc 1)],.inst 368 b,.ns [(S' "code",.int (.v q)),(S' "font",.loc 1)],.inst 368 (b + 2),.ns [(S' "sort",.int (.c 0)),(S' "width",.int (.v (q + 1)))],.inst 431 (b + 4),
 .lst [.loc (b + 1)],.lst [],.lst ([.loc (b + 3),.loc (b + 5)].take m),.ns [(S' "middle",.loc (b + 8)),(S' "post",.loc (b + 7)),(S' "pre",.loc (b + 6))],.inst 495 (b + 9)]
noncomputable def Nk.last:Nk->Nat
 | .chr=>1 | .skp=>3 | .krn=>1 | .box2=>3 | .box3=>3 | .pck=>1 | .rul=>1 | .rul4=>1 | .dsc0=>10 | .dsc1=>10 | .dsc2=>10 | .pen=>1 | .mth=>1
noncomputable def dm (a:List Int):Rho:=⟨fun i=>a.getD i 0,ff,fun zw=>[]⟩
def bQ (g:Gr) (F:List Addr) (a:Addr) (nd:Nd):Prop:=∃as2:List Addr,as2[nd.k.last]? = some a/\All2 (fun x u=>aO (dm nd.a) (F++as2) g x u) as2 (nd.k.T 3 0)
noncomputable def Nd.i (nd:Nd) (i:Nat):Int:=nd.a.getD i 0
noncomputable def Nd.w (nd:Nd):Int:=match nd.k with
 | .chr=>fW (nd.i 0) | .skp | .krn | .box2 | .box3 | .pck | .rul | .rul4 | .mth=>nd.i 0 | .dsc0 | .pen=>0 | .dsc1=>fW (nd.i 0) | .dsc2=>fW (nd.i 0) + nd.i 1
noncomputable def Nd.h (nd:Nd):Int:=match nd.k with
 | .chr=>fH (nd.i 0) | .box2 | .box3 | .pck=>nd.i 1 - nd.i 3 | .dsc1=>max 0 (fH (nd.i 0)) | .dsc2=>max 0 (max (fH (nd.i 0)) 0) | _=>0
noncomputable def Nd.d (nd:Nd):Int:=match nd.k with
 | .chr=>fD (nd.i 0) | .box2 | .box3 | .pck=>nd.i 2 + nd.i 3 | .rul4=>4 | .dsc1=>max 0 (fD (nd.i 0)) | .dsc2=>max 0 (max (fD (nd.i 0)) 0) | _=>0
noncomputable def Nd.st (nd:Nd) (k:Int):Int:=match nd.k with | .skp=>if nd.i 2=k then nd.i 1 else 0 | _=>0
noncomputable def Nd.sh (nd:Nd) (k:Int):Int:=match nd.k with | .skp=>if nd.i 4=k then nd.i 3 else 0 | _=>0
def Nd.ok (nd:Nd):Prop:=match nd.k with
 | .chr | .dsc1 | .dsc2=>97<=nd.i 0/\nd.i 0<=99
 | .skp=>0<=nd.i 2/\nd.i 2<=3/\0<=nd.i 4/\nd.i 4<=3
 | _=>True
structure Tot where
 H:Int
 D:Int
 n:Int
 s0:Int
 s1:Int
 s2:Int
 s3:Int
 r0:Int
 r1:Int
 r2:Int
 r3:Int
noncomputable def Tot.l (t:Tot):List Int:=[t.H,t.D,t.n,t.s0,t.s1,t.s2,t.s3,t.r0,t.r1,t.r2,t.r3]
noncomputable def Tot.add (t:Tot) (nd:Nd):Tot:=⟨max t.H nd.h,max t.D nd.d,t.n + nd.w,t.s0 + nd.st 0,t.s1 + nd.st 1,t.s2 + nd.st 2,t.s3 + nd.st 3,t.r0 + nd.sh 0,t.r1 + nd.sh 1,t.r2 + nd.sh 2,t.r3 + nd.sh 3⟩
noncomputable def aB (t:Tot) (a:List Int):Rho:=⟨fun i=>(t.l++a).getD i 0,ff,fun zw=>[]⟩
noncomputable def rk (i:Nat) (more:List AO):St:=⟨[(S' "items",.loc 3),(S' "totals",.loc 8),(S' "height",.int (.v 0)),(S' "depth",.int (.v 1))],[],
 bl++[.dead,.lit 3 i,.lst [.int (.v 3),.int (.v 4),.int (.v 5),.int (.v 6)],.lst [.int (.v 7),.int (.v 8),.int (.v 9),.int (.v 10)],.ns [(S' "shrink",.loc 6),(S' "stretch",.loc 5),(S' "natural",.int (.v 2))],.inst 309 7]++more,[]⟩
noncomputable def oS (P:Params) (i:Nat) (k:Nk):VC :=
 (GL P vD 37 (bp P 595) (bj (cy ((al P 595).getD 2 (.Pass default)))) (.loc (9 + k.last)) (bg ((al P 595).getD 2 (.Pass default))) (rk (i + 1) ((k.T 9 11).map .fz))).vc [0,1,2,3,4,5,6,7,8] .ct (rk (i + 1) [])
end
noncomputable def Gh (P:Params) (hk:Hk) (n:Nat) (sc:Scope) (e:Expr) (s:St):Tr:=(run P hk n).E sc e s fun v s=>.leaf (.rt v) { s with pc:=[] }
section
variable {w:World} {ρ ρ':Rho} {O:Opq} {d:Nat} {A:Around} {gs:Array GenState} {dr:Drawn} {os:OsState} {G:Gr} {env:Env} {hk:Hk}
theorem Co.all {h:Heap} {ob:List AO} {as:List Addr} (W:Wd w h) (og:∀a o,O.g a=some o->h.get? a=some o) (x:All2 (fun a o=>aC ρ O as h a o/\o.own=false) as ob):Co w ρ O h.get? h ob [] as:=by
 refine ⟨⟨h,W,fun zw zw e=>e⟩,fun zw zw e=>e,og,x.len,fun i o a eo ea=>?_,fun i j o o' a e1 e2 w1 w2 e3 e4=>?_,fun zw m=>nomatch m⟩
 ·obtain ⟨o',z1,z2,z3⟩:=x.get ea
  rw [eo] at z1; cases z1
  exact ⟨z2,fun ow=>by rw [z3] at ow; cases ow⟩
 ·obtain ⟨o'',z1,z2,z3⟩:=x.get e3
  rw [e1] at z1; cases z1
  rw [z3] at w1; cases w1
theorem Tr.mono {t:Tr} {p q:Fl->St->Prop} (k:∀f s,p f s->q f s) (x:t.ok ρ p):t.ok ρ q:=by
 induction t with
 | leaf f s=>exact k _ _ x
 | br c a b ia ib=>exact ⟨fun h=>ia (x.1 h),fun h=>ib (x.2 h)⟩
 | req c t it=>exact ⟨x.1,it x.2⟩
 | fail=>exact x
theorem L2 {n0:Nat} {r0:Nat} (H:ay w ρ O hk r0) {bs:List Stmt} {s s':St} {vc:VC} {m:List Nat} {sc:Scope} (hsc:env.scope=sc) (e:(A1 w.params hk n0 sc bs s).vc m .nx s'=vc) {h:Heap} {n:Nat} {as:List Addr} {Q:Flow->Shared->Prop} {E:Value->Shared->Prop} (R:Room A (n0 + r0))
  (S:SR w ρ O G env h s as) (y:vc.den ρ ρ')
  (q:∀h' as' n',SR w ρ' O G env h' s' (m.map fun j=>as'.getD j 0)->aM as as'->Q .next ⟨h',gs,dr,n',os⟩):wpAny (model pr w) A (execs bs env) Q E ⟨h,gs,dr,n,os⟩:=by
 apply bc;intro ng
 subst hsc
 apply ng;clear ng
 rw [<- e] at y
 refine Dh H rfl R S (Tr.mono ?_ (cV y))
 rintro f s3 zq1 F h3 as3 n3 S3 p3 df
 apply bc;intro ng
 obtain ⟨l0,l,y1,y2,y3,y4⟩:=zq1
 apply ng;clear ng
 induction f with
 | nx=>have df:F = .next:=df; subst df; exact q h3 as3 n3 (S3.re m y3 y4) p3
 | ct=>exact ap y1
 | rt v=>exact ap y1
 | bk=>exact ap y1
theorem Mo {n0:Nat} {r0:Nat} (H:ay w ρ O hk r0) {bs:List Stmt} {s s':St} {vc:VC} {m:List Nat} {sc:Scope} {v:AV} (hsc:env.scope=sc) (e:(A1 w.params hk n0 sc bs s).vc m (.rt v) s'=vc) {h:Heap} {n:Nat} {as:List Addr} {Q:Flow->Shared->Prop} {E:Value->Shared->Prop} (R:Room A (n0 + r0))
  (S:SR w ρ O G env h s as) (y:vc.den ρ ρ')
  (q:∀V h' as' n',SR w ρ' O G env h' s' (m.map fun j=>as'.getD j 0)->aM as as'->Dn ρ' (m.map fun j=>as'.getD j 0) v V->Q (.ret V) ⟨h',gs,dr,n',os⟩):wpAny (model pr w) A (execs bs env) Q E ⟨h,gs,dr,n,os⟩:=by
 apply bc;intro ng
 subst hsc
 apply ng;clear ng
 rw [<- e] at y
 refine Dh H rfl R S (Tr.mono ?_ (cV y))
 rintro f s3 zq2 F h3 as3 n3 S3 p3 df
 apply bc;intro ng
 obtain ⟨l0,l,y1,y2,y3,y4⟩:=zq2
 apply ng;clear ng
 induction f with
 | nx=>exact ap y1
 | ct=>exact ap y1
 | bk=>exact ap y1
 | rt u =>
  apply bc;intro ng
  obtain ⟨V,rfl,dv⟩:=df
  apply ng;clear ng
  exact q V h3 _ n3 (S3.re m y3 y4) p3 (bS (dw rfl) y1 y2 dv)
theorem Ng {n0:Nat} {r0:Nat} (H:ay w ρ O hk r0) {e:Expr} {s s':St} {vc:VC} {m:List Nat} {sc:Scope} {v:AV} (hsc:env.scope=sc) (ev:(Gh w.params hk n0 sc e s).vc m (.rt v) s'=vc) {h:Heap} {n:Nat} {as:List Addr} {Q:Value->Shared->Prop} {E:Value->Shared->Prop} (R:Room A (n0 + r0))
  (S:SR w ρ O G env h s as) (y:vc.den ρ ρ')
  (q:∀V h' as' n',SR w ρ' O G env h' s' (m.map fun j=>as'.getD j 0)->aM as as'->Dn ρ' (m.map fun j=>as'.getD j 0) v V->Q V ⟨h',gs,dr,n',os⟩):wpAny (model pr w) A (eval e env) Q E ⟨h,gs,dr,n,os⟩:=by
 apply bc;intro ng
 subst hsc
 apply ng;clear ng
 rw [<- ev] at y
 have y:=cV y
 unfold Gh at y
 refine (fZ H n0).E R y S fun u V s3 h3 as3 n3 y S3 p3 du=>?_
 apply bc;intro ng
 obtain ⟨l0,l,y1,y2,y3,y4⟩:=y
 apply ng;clear ng
 exact q V h3 _ n3 ((S3.pcs (pc:=[]) fun zw m=>nomatch m).re m y3 y4) p3 (bS (dw rfl) y1 y2 du)
theorem LZ {n0:Nat} {r0:Nat} (H:ay w ρ O hk r0) {f:Addr} {args:List AV} {ob ob':List AO} {vc:VC} {m:List Nat} {v:AV} (e:(sx w.params hk n0 f args ob).vc m (.rt v) ⟨[],[],ob',[]⟩=vc) {h:Heap} {n:Nat} {as:List Addr} {Us:List Value} {Q:Value->Shared->Prop} {E:Value->Shared->Prop} (R:Room A (n0 + r0))
  (S:Co w ρ O G h ob [] as) (da:All2 (Dn ρ as) args Us) (y:vc.den ρ ρ')
  (q:∀V h' as' n',Co w ρ' O G h' ob' [] (m.map fun j=>as'.getD j 0)->aM as as'->Dn ρ' (m.map fun j=>as'.getD j 0) v V->Q V ⟨h',gs,dr,n',os⟩):wpAny (model pr w) A (call (.ref f) Us) Q E ⟨h,gs,dr,n,os⟩:=by
 rw [<- e] at y
 refine LG H rfl R S da (Tr.mono ?_ (cV y))
 rintro f s3 zq3 u V h3 as3 n3 zq4 C3 p3 du
 apply bc;intro ng
 obtain ⟨l0,l,y1,y2,y3,y4⟩:=zq3
 obtain rfl:=zq4
 apply ng;clear ng
 exact q V h3 _ n3 (C3.re (s':=⟨[],[],ob',[]⟩) m y3 y4) p3 (bS (dw rfl) y1 y2 du)
end
noncomputable def IE.v? : IE->Option Nat | .v k=>some k | _=>none
noncomputable def IE.neg? : IE->Option IE | .neg k=>some k | _=>none
noncomputable def IE.abs? : IE->Option IE | .abs k=>some k | _=>none
noncomputable def Ob1.ie? : Ob1->Option (IE×IE) | .ie a b=>some (a,b) | _=>none
theorem dT {e:IE} {n:Nat} (h:e.v? = some n):e = .v n:=by induction e using IE.casesOn <;> first | exact congrArg IE.v (aF h) | exact ap h
theorem oI {e a:IE} (h:e.neg? = some a):e = .neg a:=by induction e using IE.casesOn <;> first | exact congrArg IE.neg (aF h) | exact ap h
theorem pq {e a:IE} (h:e.abs? = some a):e = .abs a:=by induction e using IE.casesOn <;> first | exact congrArg IE.abs (aF h) | exact ap h
theorem ud {o:Ob1} {p:IE×IE} (h:o.ie? = some p):o = .ie p.1 p.2:=by induction o using Ob1.casesOn <;> first | exact congrArg (fun p:IE×IE=>Ob1.ie p.1 p.2) (aF h) | exact ap h
theorem cw {α:Type} {o:Option α} {p:α->Bool} (h:o.any p=true):∃a,o=some a/\p a=true:=by induction o with | none=>exact bH h | some a=>exact ⟨a,rfl,h⟩
noncomputable def jb (f:List Ob1->IE->IE->Bool):List Ob1->Bool | []=>true | o::r=>o.ie?.any (fun p=>f r p.1 p.2) && jb f r
theorem xM {ρ ρ':Rho} {f:List Ob1->IE->IE->Bool} (h:∀r a e,f r a e=true->a.den ρ=e.den ρ') {l:List Ob1} (w:jb f l=true):bE ρ ρ' l:=by
 induction l with
 | nil=>trivial
 | cons o r ih =>
  obtain ⟨p,e,w1⟩:=cw (ag w)
  refine aa (ud e) ?_
  exact bE.cons.mpr ⟨h _ _ _ w1,ih (au w)⟩
noncomputable def AN (p:Nat->Nat->Bool) (_:List Ob1) (a e:IE):Bool:=match e.v? with
 | some j=>a.v?.any fun i=>p i j
 | none=>e.c?.any fun n=>a.c?.any fun m=>decide (m=n)
theorem A4 {ρ ρ':Rho} {p:Nat->Nat->Bool} (h:∀i j,p i j=true->ρ.v i=ρ'.v j) (r:List Ob1) (a e:IE) (w:AN p r a e=true):a.den ρ=e.den ρ':=by
 unfold AN at w
 induction q:e.v? with
 | some j =>
  rw [q] at w
  obtain ⟨i,e1,w⟩:=cw w
  refine aa (dT q) (aa (dT e1) ?_); exact h i j w
 | none =>
  rw [q] at w
  obtain ⟨n,e1,w⟩:=cw w
  obtain ⟨m,e2,w⟩:=cw w
  refine aa (bP e1) (aa (bP e2) ?_); exact of_decide_eq_true w
theorem hQ {ρ ρ':Rho} {p:Nat->Nat->Bool} (h:∀i j,p i j=true->ρ.v i=ρ'.v j) {l:List Ob1} (w:jb (AN p) l=true):bE ρ ρ' l:=xM (A4 h) w
theorem All2.flip {α β:Type} {R:α->β->Prop} {l:List α} {m:List β} (x:All2 R l m):All2 (fun b a=>R a b) m l:=by
 induction x with | nil=>exact .nil | cons h _ ih=>exact .cons h ih
theorem All2.of {α β:Type} {R:α->β->Prop} {l:List α}:∀{m:List β},l.length=m.length->(∀(i:Nat) a b,l[i]? = some a->m[i]? = some b->R a b)->All2 R l m:=by
 induction l with
 | nil=>intro m e _; induction m using List.casesOn with | nil=>exact .nil | cons _ _=>exact (Nat.noConfusion e)
 | cons u us ih =>
  intro m e k
  induction m using List.casesOn with
  | nil=>exact (Nat.noConfusion e)
  | cons b bs=>exact .cons (k 0 u b rfl rfl) (ih (Nat.succ.inj e) fun i u b e1 e2=>k (i + 1) u b e1 e2)
theorem oW {ρ ρ':Rho} {as as':List Addr} {g:Gr} {mp:Nat->Option Nat} (hm:Mp mp as as') {xs:List Addr} {os us:List AO} {l:List Ob1} (e:ox (fF mp) os us=some l) (ob:bE ρ ρ' l) (x:All2 (fun x u=>aO ρ as g x u) xs os):All2 (fun x u=>aO ρ' as' g x u) xs us :=
 (hY (R:=fun u x=>aO ρ as g x u) (R':=fun u x=>aO ρ' as' g x u) (fun zw zw zw zw=>bL hm) e ob x.flip).flip
theorem jy {ρ ρ':Rho} {O:Opq} {as:List Addr} {ob:List AO} {h:Heap} {m:List Nat} {us:List AO} {l:List Ob1} {mp:Nat->Option Nat} (hm:Mp mp as (m.map fun j=>as.getD j 0)) (sz:as.length=ob.length) (hob:∀(i:Nat) o a,ob[i]? = some o->as[i]? = some a->aC ρ O as h a o) (e:cH mp ob m us=some l) (o:bE ρ ρ' l) (hf:us.all AO.isF=true) :
  All2 (fun b u=>aO ρ' (m.map fun j=>as.getD j 0) h.get? b u) (m.map fun j=>as.getD j 0) us:=by
 apply bc;intro ng
 obtain ⟨t1,t2⟩:=eI hm sz hob e o
 apply ng;clear ng
 refine All2.of ((List.length_map _).trans t1) fun i a u ea eu=>?_
 apply bc;intro ng
 obtain ⟨j,o',a',x1,x2,x3,x4,-⟩:=t2 i u eu
 apply ng;clear ng
 rw [List.getElem?_map,x1] at ea
 have ea:a'=a:=(bG x3).symm.trans (aF ea)
 exact ea▸x4.f (List.all_eq_true.mp hf u (List.mem_of_getElem? eu))
theorem rC {ρ ρ':Rho} {O:Opq} {as:List Addr} {ob:List AO} {h:Heap} {m:List Nat} {us:List AO} {l:List Ob1} {mp:Nat->Option Nat} (hm:Mp mp as (m.map fun j=>as.getD j 0)) (sz:as.length=ob.length) (hob:∀(i:Nat) o a,ob[i]? = some o->as[i]? = some a->aC ρ O as h a o) (e:cH mp ob m us=some l) (o:bE ρ ρ' l) :
  All2 (fun b u=>aC ρ' O (m.map fun j=>as.getD j 0) h b u) (m.map fun j=>as.getD j 0) us:=by
 apply bc;intro ng
 obtain ⟨t1,t2⟩:=eI hm sz hob e o
 refine ng (All2.of ((List.length_map _).trans t1) fun i a u ea eu=>?_)
 obtain ⟨j,o',a',x1,x2,x3,x4,-⟩:=t2 i u eu
 rw [List.getElem?_map,x1] at ea
 have ea:a'=a:=(bG x3).symm.trans (aF ea)
 exact ea▸x4
theorem ET {α:Type} {p:Prop} [Decidable p] {x y:α} (e:(if p then some x else none)=some y):p/\x=y:=by
 by_cases h:p
 ·exact ⟨h,aF ((if_pos h).symm.trans e)⟩
 ·exact ap ((if_neg h).symm.trans e)
theorem All2.hd {α β:Type} {R:α->β->Prop} {a:α} {b:β} {l:List α} {m:List β} (x:All2 R (a::l) (b::m)):R a b:=by cases x with | cons h _=>exact h
theorem All2.tl {α β:Type} {R:α->β->Prop} {a:α} {b:β} {l:List α} {m:List β} (x:All2 R (a::l) (b::m)):All2 R l m:=by cases x with | cons _ t=>exact t
theorem se {Vs:List Value} {n:Int} {r:List Int} (x:IntsAre Vs (n::r)):∃t Us,Vs = .int n t::Us/\IntsAre Us r:=by cases x with | cons _ t h=>exact ⟨t,_,rfl,h⟩
theorem Bp {Vs:List Value} (x:IntsAre Vs []):Vs = []:=by cases x; rfl
theorem jo {Vs:List Value} {a b:Int} (x:IntsAre Vs [a,b]):∃t u,Vs = [.int a t,.int b u] :=
 let ⟨t,_,e,h⟩:=se x; let ⟨u,_,e1,h1⟩:=se h; ⟨t,u,e.trans (congrArg (Value.int a t :: ·) (e1.trans (congrArg (Value.int b u :: ·) (Bp h1))))⟩
theorem dQ {ρ:Rho} {as:List Addr}:∀{es:List IE} {Vs:List Value},All2 (Dn ρ as) (es.map .int) Vs->IntsAre Vs (es.map (IE.den ρ)):=by
 intro es
 induction es with
 | nil=>intro Vs x; refine aa x.n ?_; exact .nil
 | cons e r ih =>
  intro Vs x
  apply bc;intro ng
  obtain ⟨b,m,hV,⟨t,ht⟩,x⟩:=x.c
  apply ng;clear ng
  refine aa hV (aa ht ?_); exact .cons _ _ (ih x)
theorem cA {ρ:Rho} {as:List Addr} {i:Nat} {V:Value} {x:Addr} (d:Dn ρ as (.loc i) V) (e:as[i]? = some x):V = .ref x:=let ⟨_,e1,e2⟩:=d; e2.trans (congrArg Value.ref (aF (e1.symm.trans e)))
theorem rq {ρ:Rho} {as:List Addr} {n:Int} {i:Nat} {q:Int×Value} {x:Addr} (d:Kv ρ as (n,.loc i) q) (e:as[i]? = some x):q=(n,.ref x):=by
 obtain ⟨d1,d2⟩:=d
 obtain ⟨q1,q2⟩:=q
 have d1:n=q1:=d1
 exact aa (Eq.symm d1) (aa (show q2=_ from cA d2 e) rfl)
section
variable {w:World} {O:Opq} {A:Around} {gs:Array GenState} {dr:Drawn} {os:OsState} {G:Gr} {env:Env}
section
variable {ρ ρ':Rho} {s s':St} {h:Heap} {n:Nat} {as as2:List Addr} {hk:Hk} {m:List Nat}
theorem dh {α:Type} {M:Model} {A:Around} {m:Sem α} {Q:α->Shared->Prop} {E:Value->Shared->Prop} {s:Shared} (f:∀Q' E':_->Shared->Prop,(∀v s,Q v s->Q' v s)->(∀v s,E v s->E' v s)->wpAny M A m Q' E' s):wpAny M A m Q E s:=f Q E (fun zw zw h=>h) fun zw zw h=>h
theorem dq {as as':List Addr} (p:aM as as'):∀{m:List Nat},m.all (fun j=>Nat.ble (j + 1) as.length)=true->(m.map fun j=>as'.getD j 0)=m.map fun j=>as.getD j 0
 | [],_=>rfl
 | j::m,h=>by
  have hj:j < as.length:=Nat.le_of_ble_eq_true (ag h)
  refine aa List.map_cons (aa List.map_cons (aa (dq p (au h)) ?_))
  refine congrArg (· :: _) ?_
  let ⟨t,e⟩:=p
  exact aa e (aa (List.getD_eq_getElem?_getD) (aa (List.getD_eq_getElem?_getD) (aa (List.getElem?_append_left hj) rfl)))
theorem SR.same {G':Gr} {env':Env} {h':Heap} {ρ':Rho} {O':Opq} {as':List Addr} (S:SR w ρ O G env h s as) (S':SR w ρ' O' G' env' h' s' as') (p:aM as as') (e:s.ob.length=s'.ob.length):as'=as:=by
 let ⟨t,ht⟩:=p
 have l1:=S.sz; have l2:=S'.sz
 rw [ht,List.length_append,<- e,<- l1] at l2
 rw [ht,List.length_eq_zero_iff.mp (Nat.add_left_cancel (k:=0) l2),List.append_nil]
theorem aM.eq {a b:List Addr} (p:aM a b) (l:b.length=a.length):b=a:=by
 let ⟨t,ht⟩:=p
 rw [ht,List.length_append] at l
 rw [ht,List.length_eq_zero_iff.mp (Nat.add_left_cancel (k:=0) l),List.append_nil]
theorem EN {n0 r0:Nat} (H:ay w ρ O hk r0) {e:Expr} {vc:VC} {sc:Scope} {v:AV} (hsc:env.scope=sc) (ev:(Gh w.params hk n0 sc e s).vc m (.rt v) s'=vc) {Q:Value->Shared->Prop} {E:Value->Shared->Prop} (R:Room A (n0 + r0)) (S:SR w ρ O G env h s as) (hm:m.all (fun j=>Nat.ble (j + 1) as.length)=true) (ha:(m.map fun j=>as.getD j 0)=as2) (y:vc.den ρ ρ')
  (q:∀V h' n',SR w ρ' O G env h' s' as2->Dn ρ' as2 v V->Q V ⟨h',gs,dr,n',os⟩):wpAny (model pr w) A (eval e env) Q E ⟨h,gs,dr,n,os⟩ :=
 Ng H hsc ev R S y fun V h' as' n' S' p dv=>q V h' n' (ha▸dq p hm▸S') (ha▸dq p hm▸dv)
theorem sF {i:Nat} {V:Value} {x:Addr} (d:Dn ρ as (.loc i) V) (e:as[i]? = some x):V = .ref x:=let ⟨_,e1,e2⟩:=d; e2.trans (congrArg Value.ref (aF (e1.symm.trans e)))
end
theorem wy {d:Nat} (hR:Room A d) {x:Str} {px:Pos} {body:List Stmt} {m j:Nat} {l it:Addr} {Vs:List Value} {as:List Addr} (hl:At G l (.lst Vs)) (hj:as[j]? = some l) (hm:as[m]? = some it) (rf:Nat->Rho) (sf:Nat->St) (em:∀i,(sf i).ob[m]? = some (.lit j i)) {RR:Result->Shared->Prop}
  (turn:∀i h n V,Vs[i]? = some V->SR w (rf i) O G env h { sf i with ob:=(sf i).ob.set m (.lit j (i + 1)) } as->∀(Q:Flow->Shared->Prop) (E1 E2:Value->Shared->Prop),
   (∀F h' n',(F = .next\/F = .cont)->SR w (rf (i + 1)) O G env h' (sf (i + 1)) as->Q F ⟨h',gs,dr,n',os⟩)->
   wpAny (model pr w) A (storeName env x V) (fun zw s₂=>wpAny (model pr w) A (execs body env) Q E1 s₂) E2 ⟨h,gs,dr,n,os⟩)
  (done:∀h n,SR w (rf Vs.length) O G env h { sf Vs.length with ob:=(sf Vs.length).ob.set m .dead } as->RR (.ok .next) ⟨h,gs,dr,n,os⟩)
  {h:Heap} {n:Nat} (S0:SR w (rf 0) O G env h (sf 0) as) :
  codeAny (model pr w) A (.forLoop (.Name x px) (.ref it) body [] env) RR ⟨h,gs,dr,n,os⟩:=by
 refine codeAny_forLoop (fun k st=>∃i h n,k + i=Vs.length/\st=⟨h,gs,dr,n,os⟩/\SR w (rf i) O G env h (sf i) as) (fun k st I=>?_) Vs.length ⟨0,h,n,rfl,rfl,S0⟩
 apply bc;intro ng
 obtain ⟨i,h,n,hk,rfl,S⟩:=I
 obtain ⟨it',a1,⟨l',a2,a3⟩,-⟩:=S.get (em i)
 rw [<- show it=it' from aF (hm.symm.trans a1),<- show l=l' from aF (hj.symm.trans a2)] at a3
 apply ng;clear ng
 have hli:h.IsList l Vs.toArray:=hl.le fun o e=>S.kp _ _ e
 by_cases hi:i < Vs.length
 ·refine wpAny_pyNext_list_item (s:=⟨h,gs,dr,n,os⟩) a3 hli (x:=Vs[i]) (by refine aa (List.getElem?_toArray) ?_; exact List.getElem?_eq_getElem hi) fun h' hit hs=>?_
  induction k using Nat.casesOn with
  | zero=>exact absurd ((Nat.zero_add i).symm.trans hk) (Nat.ne_of_lt hi)
  | succ k =>
  refine wpAny_assign_Name (turn i h' n Vs[i] (List.getElem?_eq_getElem hi) (S.obj (em i) rfl hm hs ⟨l,hj,hit⟩) _ _ _ fun F h2 n2 hF S2=>?_)
  have z:∃m,m < k + 1/\∃i h n,m + i=Vs.length/\(⟨h2,gs,dr,n2,os⟩:Shared)=⟨h,gs,dr,n,os⟩/\SR w (rf i) O G env h (sf i) as:=⟨k,Nat.lt_succ_self k,i + 1,h2,n2,((Nat.add_assoc k 1 i).trans (congrArg (k + ·) (Nat.add_comm 1 i))).symm.trans hk,rfl,S2⟩
  induction hF with
  | inl e=>refine aa e ?_; exact z
  | inr e=>refine aa e ?_; exact z
 ·have hi':i=Vs.length:=Nat.le_antisymm (hk▸Nat.le_add_left i k) (Nat.le_of_not_lt hi)
  rw [hi'] at S a3
  refine wpAny_pyNext_list_end (s:=⟨h,gs,dr,n,os⟩) hR.hd a3 hli (by refine aa (List.getElem?_toArray) ?_; exact List.getElem?_eq_none (Nat.le_refl _)) fun h' hs=>?_
  exact wpAny_execs_nil (done h' n (S.obj' (o':=.dead) (em _) rfl hm hs trivial))
end
section
set_option backward.match.sparseCases false
def hM (g:Gr) (t:Addr) (ns:List Int):Prop:=∃Vs,IntsAre Vs ns/\At g t (.tup Vs)
def mQ (w:World) (g:Gr) (d:Addr):Prop:=∃t1 t2 t3,fu g d [(97,.ref t1),(98,.ref t2),(99,.ref t3)]/\hM g t1 [5,7,2,0,0,0]/\hM g t2 [11,3,0,0,0,0]/\hM g t3 [4,1,9,0,0,0]
theorem mQ.ex {w:World} {g:Gr} {d:Addr} (x:mQ w g d):∃o,g d=some o:=let ⟨_,_,_,⟨_,o,e,_⟩,_⟩:=x; ⟨o,e⟩
noncomputable def OG (w:World) (g:Gr):Opq:=⟨g,fun k a=>k=0/\mQ w g a,fun a h=>by omega,fun a h=>by omega⟩
noncomputable def uf:AO:=.ns [(S' "skew_char",.any),(S' "hyphen_char",.any),(S' "edge_start",.any),(S' "boundary",.any),(S' "kerns",.any),(S' "program",.any),(S' "chars",.loc 2),(S' "params",.any),(S' "check",.any),(S' "design",.any),(S' "size",.any),(S' "name",.any),(S' "number",.int (.c 1))]
def aU (w:World) (g:Gr) (F:List Addr):Prop:=∃f0 f1 f2,F = [f0,f1,f2]/\aO (dm []) F g f0 uf/\aO (dm []) F g f1 (.inst 822 0)/\mQ w g f2
structure Items (g:Gr) (F:List Addr) (a:Addr) (Vs:List Value) (nds:List Nd):Prop where
 list:At g a (.lst Vs)
 nodes:All2 (fun V nd=>∃x,V = .ref x/\bQ g F x nd/\nd.ok) Vs nds
noncomputable def Tot.zero:Tot:=⟨0,0,0,0,0,0,0,0,0,0,0⟩
noncomputable def ad (nds:List Nd):Tot:=nds.foldl Tot.add Tot.zero
theorem qn {nds:List Nd} {i:Nat} {nd:Nd} (h:nds[i]? = some nd):ad (nds.take (i + 1))=(ad (nds.take i)).add nd:=by
 unfold ad
 refine aa List.take_add_one (aa h ?_)
 simp
noncomputable def ax:Expr->Expr | .Call f _ _ _=>f | e=>e
noncomputable def bq:Expr->Expr | .Call _ (a::_) _ _=>a | e=>e
noncomputable def cg:Expr->Pos | .Call _ _ _ p=>p | e=>e.pos
noncomputable def ca:Expr->Expr | .Attribute o _ _=>o | .Subscript o _ _=>o | e=>e
noncomputable def d6:Expr->Pos | .Attribute _ _ p=>p | .Subscript _ _ p=>p | e=>e.pos
noncomputable def jM:Expr->Expr | .Subscript _ i _=>i | e=>e
noncomputable def Mb:Expr->Expr | .Slice _ (some u) _ _=>u | e=>e
noncomputable def Nc:Expr->Pos | .Slice _ _ _ p=>p | e=>e.pos
noncomputable def i6 (i:Nat):Expr->Expr | .BoolOp _ l _=>l.getD i (.Constant .none 0 default) | e=>e
noncomputable def wn:Expr->Pos | .BoolOp _ _ p=>p | e=>e.pos
noncomputable def LC:Expr->Expr | .Compare a _ _ _=>a | e=>e
noncomputable def ED:Expr->Expr | .Compare _ _ (b::_) _=>b | e=>e
noncomputable def ch:Stmt->Expr | .Expr e _=>e | .Assign _ e _=>e | .While t _ _ _=>t | .If t _ _ _=>t | .Return (some e) _=>e | .For _ it _ _ _=>it | _=>.Constant .none 0 default
noncomputable def tQ:Stmt->List Stmt | .While _ b _ _=>b | .If _ b _ _=>b | .For _ _ b _ _=>b | _=>[]
noncomputable def rh:Stmt->Pos | .Expr _ p=>p | .Assign _ _ p=>p | .While _ _ _ p=>p | .If _ _ _ p=>p | .Return _ p=>p | .For _ _ _ _ p=>p | _=>default
noncomputable def CN (P:Params) (a:Addr):Stmt:=(al P a).getD 0 (.Pass default)
noncomputable def cR (P:Params) (a:Addr):Expr:=ca (ch (CN P a))
noncomputable def aJ:Expr->List Expr | .Call _ l _ _=>l | _=>[]
noncomputable def B8 (a:Addr):Nat:=if a == 763 then 0 else if a == 770 then 1 else 2
theorem A8 (P:Params):∀a,(a == 763 || a == 770 || a == 777)=true->a=763\/a=770\/a=777:=fun a h=>by
 simp only [Bool.or_eq_true,beq_iff_eq] at h
 rcases h with (h | h) | h
 ·exact .inl h
 ·exact .inr (.inl h)
 ·exact .inr (.inr h)
theorem xt (P:Params) (a:Addr) (h:a=763\/a=770\/a=777):al P a = [.Return (some (.Subscript (.Call (.Attribute (ca (ax (cR P a))) (S' "get") (d6 (ax (cR P a)))) [(aJ (cR P a)).getD 0 (cR P a),(aJ (cR P a)).getD 1 (cR P a)] [] (cg (cR P a))) (jM (ch (CN P a))) (d6 (ch (CN P a))))) (rh (CN P a))]:=by rcases h with rfl | rfl | rfl <;> kernel_rfl
theorem DC (P:Params) (a:Addr) (h:a=763\/a=770\/a=777):dL P a=some (aZ P a):=by rcases h with rfl | rfl | rfl <;> kernel_rfl
theorem wi (P:Params) (e:IE) (a:Addr) (h:a=763\/a=770\/a=777):aQ (aZ P a) [.loc 1,.int e]=some [(S' "self",.loc 1),(S' "code",.int e)]:=by rcases h with rfl | rfl | rfl <;> kernel_rfl
noncomputable def qI (e:IE):St:=⟨[(S' "code",.int e),(S' "self",.loc 1)],[],bl,[]⟩
theorem D5 (P:Params) (e:IE) (a:Addr) (h:a=763\/a=770\/a=777):(⟨[(S' "self",AV.loc 1),(S' "code",.int e)].reverse.filter (fun x=>decide ((aZ P a).scope.names.lookup x.1=some .local)),(ae (aZ P a).scope.names).zip ((List.range (ae (aZ P a).scope.names).length).map (bl.length + ·)),bl++(ae (aZ P a).scope.names).map (fun n=>.cell ([(S' "self",AV.loc 1),(S' "code",.int e)].reverse.lookup n)),[]⟩:St)=qI e:=by rcases h with rfl | rfl | rfl <;> kernel_rfl
theorem KY (P:Params) (e:IE) (a:Addr) (h:a=763\/a=770\/a=777) (k:AV->St->Tr):(run P aA 2).E (bp P a) (ca (ax (cR P a))) (qI e) k=k (.loc 2) (qI e):=by rcases h with rfl | rfl | rfl <;> kernel_rfl
theorem KB (P:Params) (e:IE) (a:Addr) (h:a=763\/a=770\/a=777) (k:AV->St->Tr):(run P aA 2).E (bp P a) ((aJ (cR P a)).getD 0 (cR P a)) (qI e) k=k (.int e) (qI e):=by rcases h with rfl | rfl | rfl <;> kernel_rfl
theorem JD (P:Params) (e:IE) (a:Addr) (h:a=763\/a=770\/a=777) (k:AV->St->Tr):(run P aA 2).E (bp P a) ((aJ (cR P a)).getD 1 (cR P a)) (qI e) k=k (.glb (.ref 682)) (qI e):=by rcases h with rfl | rfl | rfl <;> kernel_rfl
theorem Lc (P:Params) (e:IE) (a:Addr) (h:a=763\/a=770\/a=777) (k:AV->St->Tr):(run P aA 2).E (bp P a) (jM (ch (CN P a))) (qI e) k=k (.int (.c (B8 a))) (qI e):=by rcases h with rfl | rfl | rfl <;> kernel_rfl
theorem Ko (P:Params) (a:Addr) (h:a=763\/a=770\/a=777):((d6 (ax (cR P a))).endLine == (cg (cR P a)).line)=true/\cu (ca (ax (cR P a)))=false/\aK ((aJ (cR P a)).getD 0 (cR P a))=false/\aK ((aJ (cR P a)).getD 1 (cR P a))=false/\cv (jM (ch (CN P a)))=false:=by
 rcases h with rfl | rfl | rfl <;> exact ⟨by kernel_rfl,by kernel_rfl,by kernel_rfl,by kernel_rfl,by kernel_rfl⟩
theorem Ak {e:Int} (h1:97<=e) (h2:e<=99) (t1 t2 t3:Addr):∃(t:Addr) (ns:List Int),valueAt [(97,Value.ref t1),(98,.ref t2),(99,.ref t3)] e=some (.ref t)/\((t=t1/\ns = [5,7,2,0,0,0])\/(t=t2/\ns = [11,3,0,0,0,0])\/(t=t3/\ns = [4,1,9,0,0,0]))/\ns[0]? = some (fW e)/\ns[1]? = some (fH e)/\ns[2]? = some (fD e):=by
 have:e=97\/e=98\/e=99:=by (first | lia | omega)
 rcases this with rfl | rfl | rfl
 ·exact ⟨t1,[5,7,2,0,0,0],rfl,.inl ⟨rfl,rfl⟩,rfl,rfl,rfl⟩
 ·exact ⟨t2,[11,3,0,0,0,0],rfl,.inr (.inl ⟨rfl,rfl⟩),rfl,rfl,rfl⟩
 ·exact ⟨t3,[4,1,9,0,0,0],rfl,.inr (.inr ⟨rfl,rfl⟩),rfl,rfl,rfl⟩
theorem Am {w:World} {ρ:Rho} {g:Gr} {A:Around} {gs:Array GenState} {dr:Drawn} {os:OsState} {h:Heap} {n:Nat} {f x a0 a2:Addr} {ie:IE} {t:Tok} (hf:ρ.f=ff) (hf3:f=763\/f=770\/f=777) (b1:97<=ie.den ρ) (b2:ie.den ρ<=99) (C0:Co w ρ (OG w g) h.get? h bl [] [a0,x,a2]) (R:Room A 3) {Q:Value->Shared->Prop} {E:Value->Shared->Prop}
  (q:∀t h' n',h.StaysIn h'->Q (.int (ρ.f (Ll f) (ie.den ρ) 0 0) t) ⟨h',gs,dr,n',os⟩):wpAny (model pr w) A (call (.ref f) [.ref x,.int (ie.den ρ) t]) Q E ⟨h,gs,dr,n,os⟩:=by
 have kg:∀a o,g a=some o->h.get? a=some o:=C0.og
 apply bc;intro ng
 obtain ⟨p1,p2,p3,p4,p5⟩:=Ko w.params f hf3
 apply ng;clear ng
 refine go (R.le (m:=2 + 1) (by (first | decide | lia | omega))) (DC w.params f hf3) (wi w.params ie f hf3) C0 (.cons ⟨x,rfl,rfl⟩ (.cons ⟨t,rfl⟩ .nil)) fun A' env h1 n1 as1 R1 esc q1 S1 E'=>?_
 refine dh fun Q' E' kq zw=>?_
 rw [D5 w.params ie f hf3] at S1
 replace esc:env.scope=bp w.params f:=esc
 have RN:Snd w ρ (OG w g) 2 (run w.params aA 2):=fZ (r0:=0) ay.no 2
 have yl:∀{v:AV} {s:St},(Tr.leaf (.rt v) s).ok ρ fun f' s'=>f' = .rt v/\s'=s:=⟨rfl,rfl⟩
 have ev:∀{e':Expr} {v:AV} {h2:Heap} {n2:Nat} {as2:List Addr} {Q':Value->Shared->Prop} {E'':Value->Shared->Prop},(∀k,(run w.params aA 2).E (bp w.params f) e' (qI ie) k=k v (qI ie))->SR w ρ (OG w g) h.get? env h2 (qI ie) as2->
   (∀V h3 as3 n3,SR w ρ (OG w g) h.get? env h3 (qI ie) as3->aM as2 as3->Dn ρ as3 v V->Q' V ⟨h3,gs,dr,n3,os⟩)->wpAny (model pr w) A' (eval e' env) Q' E'' ⟨h2,gs,dr,n2,os⟩:=by
  intro e' v h2 n2 as2 Q' E'' he S2 q2
  refine RN.E (k:=fun v s=>.leaf (.rt v) s) R1 (by rw [esc,he]; exact yl) S2 fun u V s3 h3 as3 n3 y3 S3 p3 du=>?_
  apply bc;intro ng
  obtain ⟨y4,y5⟩:=y3
  cases y4
  apply ng;clear ng
  rw [y5] at S3
  exact q2 V h3 as3 n3 S3 p3 du
 refine aa (show (aZ w.params f).body=_ from xt w.params f hf3) ?_
 refine wpAny_execs_cons (wpAny_Return_some (Subscript_ ?_))
 show wpAny (model pr w) A' (do
  let ov <- attributeBase (ca (ax (cR w.params f))) (S' "get") env (eval (ca (ax (cR w.params f))) env)
  standAt (d6 (ax (cR w.params f))).atName
  methodCall (ca (ax (cR w.params f))) (S' "get") (d6 (ax (cR w.params f))) (cg (cR w.params f)) env ov (2 + 0) (backTo (cg (cR w.params f)) (starEach [(aJ (cR w.params f)).getD 0 (cR w.params f),(aJ (cR w.params f)).getD 1 (cR w.params f)] env)) []) _ _ _
 refine aa (eQ p2) ?_
 refine wpAny_bind (ev (KY w.params ie f hf3) S1 fun V h2 as2 n2 S2 q2 dv=>?_)
 apply bc;intro ng
 obtain ⟨dd,ed,rfl⟩:=dv
 obtain ⟨-,-,t1,t2,t3,D,ta,tb,tc⟩:=(S2.ob 2 _ dd rfl ed).1
 apply ng;clear ng
 have DO:∀h3:Heap,(∀a o,h.get? a=some o->h3.get? a=some o)->h3.DictOf (intKind pr w) dd [(97,.ref t1),(98,.ref t2),(99,.ref t3)]:=fun h3 k=>by
  apply bc;intro ng
  obtain ⟨-,o,eo,z⟩:=D
  obtain ⟨es,ep,r⟩:=z w
  apply ng;clear ng
  exact ⟨o,es,ep,k _ _ (kg _ _ eo),r⟩
 have D2:=DO h2 S2.kp
 refine wpAny_bind (wpAny_standAt ?_)
 have eb:backTo (cg (cR w.params f)) (starEach [(aJ (cR w.params f)).getD 0 (cR w.params f),(aJ (cR w.params f)).getD 1 (cR w.params f)] env) = [(false,eval ((aJ (cR w.params f)).getD 0 (cR w.params f)) env),(false,eval ((aJ (cR w.params f)).getD 1 (cR w.params f)) env)]:=by
  refine aa (aX p3) (aa (aX p4) ?_); rfl
 refine aa eb ?_
 unfold methodCall
 refine aa (show methodCallForm (2 + 0) [(false,eval ((aJ (cR w.params f)).getD 0 (cR w.params f)) env),(false,eval ((aJ (cR w.params f)).getD 1 (cR w.params f)) env)] []=true from rfl) ?_
 refine wpAny_bind (wpAny_holding (getMethod_builtin (s:=⟨h2,gs,dr,n2,os⟩) D2.typeIs PySem.F.plainAttrs_dict PySem.F.slot_dict_get PySem.F.type_dict_get D2.mapOf.noDict ?_))
 refine wpAny_bind (wpAny_of_eq (show methodCallPos true (ca (ax (cR w.params f))) env (d6 (ax (cR w.params f))) (cg (cR w.params f))=pure (cg (cR w.params f)) from ?_) ?_)
 ·unfold methodCallPos; refine aa p1 ?_; simp
 refine wpAny_dict_get2 (knd:=intKind pr w) D.1 (ev (KB w.params ie f hf3) S2 fun V h3 as3 n3 S3 q3 dv=>ev (JD w.params ie f hf3) S3 fun U h4 as4 n4 S4 q4 du=>?_)
 apply bc;intro ng
 obtain ⟨tk,rfl⟩:=dv
 apply ng;clear ng
 refine ⟨ie.den ρ,_,intKind_is _ _ _ _,(DO h4 S4.kp).mapOf,?_⟩
 apply bc;intro ng
 obtain ⟨tr,ns,v1,v2,v3⟩:=Ak b1 b2 t1 t2 t3
 apply ng;clear ng
 refine aa v1 ?_
 have TI:hM g tr ns:=by
  rcases v2 with ⟨rfl,rfl⟩ | ⟨rfl,rfl⟩ | ⟨rfl,rfl⟩
  ·exact ta
  ·exact tb
  ·exact tc
 apply bc;intro ng
 obtain ⟨Vs,vi,va⟩:=TI
 apply ng;clear ng
 show wpAny _ _ _ _ _ ⟨h4,gs,dr,n4 + 1,os⟩
 refine ev (Lc w.params ie f hf3) S4 fun X h5 as5 n5 S5 q5 dx=>?_
 apply bc;intro ng
 obtain ⟨ux,rfl⟩:=dx
 have l5:IsTup h5 tr Vs.toArray:=va.le fun o e=>S5.kp _ _ (kg _ _ e)
 have key:∃m:Int,ns[B8 f]? = some m/\m=ρ.f (Ll f) (ie.den ρ) 0 0:=by
  refine aa hf ?_
  rcases hf3 with rfl | rfl | rfl
  ·exact ⟨_,v3.1,rfl⟩
  ·exact ⟨_,v3.2.1,rfl⟩
  ·exact ⟨_,v3.2.2,rfl⟩
 obtain ⟨m,m1,m2⟩:=key
 obtain ⟨tm,xm⟩:=vi.get _ _ m1
 apply ng;clear ng
 have li:B8 f < Vs.length:=(List.getElem?_eq_some_iff.mp xm).1
 have l3:B8 f < 3:=by unfold B8; split; (first | decide | lia | omega); split <;> (first | decide | lia | omega)
 refine tail_any (s:=⟨h5,gs,dr,n5,os⟩) (l5.typeIs (s:=⟨h5,gs,dr,n5,os⟩)) slot_tuple_getitem.lookup (getItem_tuple (s:=⟨h5,gs,dr,n5,os⟩) (k:=(B8 f:Int)) (j:=B8 f) l5 (by (first | decide | lia | omega)) (by (first | decide | lia | omega)) (by unfold seqIndex?; simp; (first | decide | lia | omega)) (x:=.int m tm) (by simpa using xm) ?_) (dN p5 _ _)
 exact kq _ _ (m2▸q tm h5 n5 fun a o e=>S5.kp _ _ e)
theorem dZ {w:World} {ρ:Rho} {g:Gr} (hf:ρ.f=ff):ay w ρ (OG w g) vD 3:=by
 intro f args ob ces v ob' e hcs A gs dr os G h pc n as Us Q Er R S da q
 apply bc;intro ng
 obtain ⟨p,ep,e⟩:=az e
 obtain ⟨i,ei,e⟩:=az e
 obtain ⟨ie,eie,e⟩:=az e
 obtain ⟨hc,e⟩:=cU e
 cases e
 rw [cq ep,bN ei,cP eie] at da
 obtain ⟨b,b',hU,⟨x,ex,hx⟩,t,ht⟩:=da.two
 obtain ⟨l,e1,e2⟩:=cw (ag (au hc))
 have T:=rC (dw rfl) S.sz (fun i o a e e'=>(S.ob i o a e e').1) e1 (gf (ρ:=ρ) e2)
 rw [aD (au (au hc))] at ex
 have C0:Co w ρ (OG w g) h.get? h bl [] [as.getD 0 0,x,as.getD 2 0]:=by
  refine aa (Eq.symm (bG ex)) ?_
  exact Co.all S.wd (fun a o z=>S.kp _ _ (S.og _ _ z)) (.cons ⟨T.hd,rfl⟩ (.cons ⟨T.tl.hd,rfl⟩ (.cons ⟨T.tl.tl.hd,rfl⟩ .nil)))
 rw [hU,hx,ht] at ng
 exact ng (Am hf (A8 w.params f (ag hc)) (hcs _ (.head _)) (hcs _ (.tail _ (.head _))) C0 R fun t h' n' k=>q _ h' as n' (S.stay k) .refl ⟨t,rfl⟩)
theorem gp {w:World} {g:Gr} {F rest:List Addr} {ρ:Rho} {h:Heap} (Fo:aU w g F):All2 (fun a o=>aC ρ (OG w g) (F++rest) h a o/\o.own=false) F bl:=by
 apply bc;intro ng
 obtain ⟨f0,f1,f2,rfl,h1,h2,h3⟩:=Fo
 apply ng;clear ng
 have key:∀{x:Addr} {o:AO},(fF (fun i=>some i) o o).any (fun l=>jb (AN fun zw zw=>false) l)=true->aO (dm []) [f0,f1,f2] g x o->aO ρ ([f0,f1,f2]++rest) g x o:=by
  intro x o e y
  apply bc;intro ng
  obtain ⟨l,e1,e2⟩:=cw e
  refine ng (bL (mp:=fun i=>some i) (ρ:=dm []) (as:=[f0,f1,f2]) ?_ e1 (hQ (fun zw zw h=>bH h) e2) y)
  intro i j e x ex; cases e; exact aM.get ⟨_,rfl⟩ ex
 refine .cons ⟨key (by kernel_rfl) h1,rfl⟩ (.cons ⟨key (by kernel_rfl) h2,rfl⟩ (.cons ⟨⟨h3.ex,rfl,h3⟩,rfl⟩ .nil))
end
noncomputable def CH (i:Nat) (a b c d e f g h w x y:IE):VC:=.ok [.ie (.c 1) (.c 1),.nat (i + 1) (i + 1),.ie a (.v 3),.ie b (.v 4),.ie c (.v 5),.ie d (.v 6),.ie e (.v 7),.ie f (.v 8),.ie g (.v 9),.ie h (.v 10),.ie (.add (.v 2) w) (.v 2),.ie (.max (.v 0) x) (.v 0),.ie (.max (.v 1) y) (.v 1)]
noncomputable def qO (i:Nat) (w x y:IE):VC:=CH i (.v 3) (.v 4) (.v 5) (.v 6) (.v 7) (.v 8) (.v 9) (.v 10) w x y
noncomputable def rc (x:VC):VC:=(.req (.le (.c 97) (.v 11)) (.req (.le (.v 11) (.c 99)) x))
noncomputable def Eb (i:Nat) (a b c d:IE):VC :=
 .br (.eq (.v 15) (.c 3)) (CH i a b c d (.v 7) (.v 8) (.v 9) (.add (.v 10) (.v 14)) (.v 11) (.c 0) (.c 0)) (.br (.eq (.v 15) (.c 2)) (CH i a b c d (.v 7) (.v 8) (.add (.v 9) (.v 14)) (.v 10) (.v 11) (.c 0) (.c 0))
 (.br (.eq (.v 15) (.c 1)) (CH i a b c d (.v 7) (.add (.v 8) (.v 14)) (.v 9) (.v 10) (.v 11) (.c 0) (.c 0)) (.br (.eq (.v 15) (.c 0)) (CH i a b c d (.add (.v 7) (.v 14)) (.v 8) (.v 9) (.v 10) (.v 11) (.c 0) (.c 0)) .fail)))
theorem xL (P:Params) (i:Nat):oS P i .skp = .br (.eq (.v 13) (.c 3)) (Eb i (.v 3) (.v 4) (.v 5) (.add (.v 6) (.v 12))) (.br (.eq (.v 13) (.c 2)) (Eb i (.v 3) (.v 4) (.add (.v 5) (.v 12)) (.v 6))
 (.br (.eq (.v 13) (.c 1)) (Eb i (.v 3) (.add (.v 4) (.v 12)) (.v 5) (.v 6)) (.br (.eq (.v 13) (.c 0)) (Eb i (.add (.v 3) (.v 12)) (.v 4) (.v 5) (.v 6)) .fail))):=by kernel_rfl
theorem wD (P:Params) (i:Nat):oS P i .krn=qO i (.v 11) (.c 0) (.c 0):=by kernel_rfl
theorem uo (P:Params) (i:Nat):oS P i .box2=qO i (.v 11) (.sub (.v 12) (.v 14)) (.add (.v 13) (.v 14)):=by kernel_rfl
theorem vV (P:Params) (i:Nat):oS P i .rul=qO i (.v 11) (.c 0) (.c 0):=by kernel_rfl
theorem sr (P:Params) (i:Nat):oS P i .rul4=qO i (.v 11) (.c 0) (.c 4):=by kernel_rfl
theorem uk (P:Params) (i:Nat):oS P i .dsc0=qO i (.c 0) (.c 0) (.c 0):=by kernel_rfl
theorem vm (P:Params) (i:Nat):oS P i .pen=qO i (.c 0) (.c 0) (.c 0):=by kernel_rfl
theorem yF (P:Params) (i:Nat):oS P i .mth=qO i (.v 11) (.c 0) (.c 0):=by kernel_rfl
theorem sX (P:Params) (i:Nat):oS P i .box3=qO i (.v 11) (.sub (.v 12) (.v 14)) (.add (.v 13) (.v 14)):=by kernel_rfl
theorem vY (P:Params) (i:Nat):oS P i .pck=qO i (.v 11) (.sub (.v 12) (.v 14)) (.add (.v 13) (.v 14)):=by kernel_rfl
theorem wr (P:Params) (i:Nat):oS P i .chr=rc (rc (rc (qO i (.fn 1 (.v 11) (.c 0) (.c 0)) (.fn 2 (.v 11) (.c 0) (.c 0)) (.fn 3 (.v 11) (.c 0) (.c 0))))):=by kernel_rfl
theorem rY (P:Params) (i:Nat):oS P i .dsc1=rc (rc (rc (qO i (.fn 1 (.v 11) (.c 0) (.c 0)) (.max (.c 0) (.fn 2 (.v 11) (.c 0) (.c 0))) (.max (.c 0) (.fn 3 (.v 11) (.c 0) (.c 0)))))):=by kernel_rfl
theorem rH (P:Params) (i:Nat):oS P i .dsc2=rc (rc (rc (qO i (.add (.fn 1 (.v 11) (.c 0) (.c 0)) (.v 12)) (.max (.c 0) (.max (.fn 2 (.v 11) (.c 0) (.c 0)) (.c 0))) (.max (.c 0) (.max (.fn 3 (.v 11) (.c 0) (.c 0)) (.c 0)))))):=by kernel_rfl
noncomputable def Mm (i:Nat):Option Nat:=if i < 3 then some i else some (i + 6)
theorem AK (k:Nk):((ox (fF Mm) (k.T 3 0) (k.T 9 11)).map (jb (AN fun i j=>j == 11 + i)))=some true:=by induction k using Nk.casesOn <;> kernel_rfl
theorem mf {g:Gr} {F as as2:List Addr} {nd:Nd} {ρ:Rho} (h2:All2 (fun x u=>aO (dm nd.a) (F++as2) g x u) as2 (nd.k.T 3 0)) (hl:as.length=9) (hF:as.take 3=F) (hρ:∀j,ρ.v (11 + j)=nd.a.getD j 0) :
  All2 (fun x u=>aO ρ (as++as2) g x u) as2 (nd.k.T 9 11):=by
 have t:=AK nd.k
 apply bc;intro ng
 obtain ⟨l,e,gd⟩:=gU t
 apply ng;clear ng
 refine oW ?_ e (hQ (fun i j z=>(hρ i).symm.trans (congrArg ρ.v (aD z).symm)) gd) h2
 intro i j e x ex
 unfold Mm at e
 split at e
 ·rename_i hi
  cases e
  have hFl:F.length=3:=by rw [<- hF]; simp; (first | lia | omega)
  rw [List.getElem?_append_left (by (first | lia | omega))] at ex
  refine aa (List.getElem?_append_left (by (first | lia | omega))) ?_
  rw [<- hF,List.getElem?_take] at ex
  simpa [hi] using ex
 ·rename_i hi
  cases e
  have hFl:F.length=3:=by rw [<- hF]; simp; (first | lia | omega)
  rw [List.getElem?_append_right (by (first | lia | omega))] at ex
  refine aa (List.getElem?_append_right (by (first | lia | omega))) (aa hl (aa (show i + 6 - 9=i - F.length by (first | lia | omega)) ?_))
  exact ex
theorem jJ {g:Gr} {F as:List Addr} {a:Addr} {nd:Nd} {ρ:Rho} (N:bQ g F a nd) (hl:as.length=9) (hF:as.take 3=F) (hρ:∀j,ρ.v (11 + j)=nd.a.getD j 0) :
  ∃as2,as2[nd.k.last]? = some a/\All2 (fun x u=>aO ρ (as++as2) g x u) as2 (nd.k.T 9 11) :=
 let ⟨as2,h1,h2⟩:=N; ⟨as2,h1,mf h2 hl hF hρ⟩
section
variable {t:Tot} {a b:List Int}
theorem Ni:IE.den (aB t a) (.v 12)=a.getD 1 0:=rfl
theorem M0:IE.den (aB t a) (.v 13)=a.getD 2 0:=rfl
theorem NN:IE.den (aB t a) (.v 14)=a.getD 3 0:=rfl
theorem NP:IE.den (aB t a) (.v 15)=a.getD 4 0:=rfl
theorem MZ {j:Nat}:(aB t a).v (11 + j)=a.getD j 0:=by
 show (t.l++a).getD (11 + j) 0=_
 unfold List.getD
 refine aa (List.getElem?_append_right (by simp [Tot.l])) ?_
 simp [Tot.l]
theorem NX {x:Int}:(aB t a).f 1 x 0 0=fW x:=rfl
theorem NY {x:Int}:(aB t a).f 2 x 0 0=fH x:=rfl
theorem N0 {x:Int}:(aB t a).f 3 x 0 0=fD x:=rfl
theorem M2 {ρ:Rho} {a b:IE}:IE.den ρ (.mod a b)=a.den ρ % b.den ρ:=rfl
theorem Nu {ρ:Rho} {a b:IE}:IE.den ρ (.max a b)=max (a.den ρ) (b.den ρ):=rfl
theorem CQ {ρ:Rho} {k:Nat} {a b c:IE}:IE.den ρ (.fn k a b c)=ρ.f k (a.den ρ) (b.den ρ) (c.den ρ):=rfl
theorem dC {ρ:Rho} {c:Int}:IE.den ρ (.c c)=c:=rfl
theorem No {ρ ρ':Rho} {a b:IE}:Ob1.den ρ ρ' (.ie a b)=(a.den ρ=b.den ρ'):=rfl
theorem NA {ρ ρ':Rho} {i:Nat}:Ob1.den ρ ρ' (.nat i i)=True:=eq_self i
theorem NT {ρ ρ':Rho} {c:CE} {a b:VC}:VC.den ρ ρ' (.br c a b)=((c.den ρ->a.den ρ ρ')/\(¬c.den ρ->b.den ρ ρ')):=rfl
theorem MS {ρ ρ':Rho} {c:CE} {a:VC}:VC.den ρ ρ' (.req c a)=(c.den ρ/\a.den ρ ρ'):=rfl
theorem NV {ρ ρ':Rho} {l:List Ob1}:VC.den ρ ρ' (.ok l)=bE ρ ρ' l:=rfl
theorem MC {ρ ρ':Rho}:VC.den ρ ρ' .fail=False:=rfl
theorem i8 {ρ:Rho} {nd:Nd} {i:Nat} {x3 x4 x5 x6 x7 x8 x9 x10 w x y:IE} (a:x3.den ρ=t.s0 + nd.st 0/\x4.den ρ=t.s1 + nd.st 1/\x5.den ρ=t.s2 + nd.st 2/\x6.den ρ=t.s3 + nd.st 3) (b:x7.den ρ=t.r0 + nd.sh 0/\x8.den ρ=t.r1 + nd.sh 1/\x9.den ρ=t.r2 + nd.sh 2/\x10.den ρ=t.r3 + nd.sh 3)
  (c:(IE.add (.v 2) w).den ρ=t.n + nd.w) (d:(IE.max (.v 0) x).den ρ=max t.H nd.h) (e:(IE.max (.v 1) y).den ρ=max t.D nd.d):(CH i x3 x4 x5 x6 x7 x8 x9 x10 w x y).den ρ (aB (t.add nd) []) :=
 ⟨rfl,rfl,a.1,a.2.1,a.2.2.1,a.2.2.2,b.1,b.2.1,b.2.2.1,b.2.2.2,c,d,e⟩
theorem cC {nd:Nd} {i:Nat} {w x y:IE} (a:∀k,nd.st k=0) (b:∀k,nd.sh k=0) (c:w.den (aB t nd.a)=nd.w) (d:x.den (aB t nd.a)=nd.h) (e:y.den (aB t nd.a)=nd.d):(qO i w x y).den (aB t nd.a) (aB (t.add nd) []):=by
 have z:∀{x:Int} {k:Int},x=x + nd.st k:=fun {x k}=>by rw [a]; exact (Int.add_zero x).symm
 have z':∀{x:Int} {k:Int},x=x + nd.sh k:=fun {x k}=>by rw [b]; exact (Int.add_zero x).symm
 exact i8 (ρ:=aB t nd.a) ⟨z,z,z,z⟩ ⟨z',z',z',z'⟩ (congrArg (t.n + ·) c) (congrArg (max t.H ·) d) (congrArg (max t.D ·) e)
theorem gS {s x a k:Int} (h:a=k):s + x=s + if a=k then x else 0:=congrArg (s + ·) (if_pos h).symm
theorem aP {s x a k k':Int} (h:a=k) (n:k≠k'):s=s + if a=k' then x else 0:=by rw [if_neg fun z=>n (h.symm.trans z),Int.add_zero]
theorem D4 {a:Int} (h:0<=a/\a<=3) (n3:¬a=3) (n2:¬a=2) (n1:¬a=1):a=0 :=
 have f:∀{a k:Int},a<=k + 1->¬a=k + 1->a<=k:=fun h n=>Int.le_of_lt_add_one (Int.lt_iff_le_and_ne.mpr ⟨h,n⟩)
 Int.le_antisymm (f (k:=0) (f (k:=1) (f (k:=2) h.2 n3) n2) n1) h.1
theorem kh {i:Nat} {x3 x4 x5 x6:IE} (h:0<=a.getD 4 0/\a.getD 4 0<=3) (q:x3.den (aB t a)=t.s0 + Nd.st ⟨.skp,a⟩ 0/\x4.den (aB t a)=t.s1 + Nd.st ⟨.skp,a⟩ 1/\x5.den (aB t a)=t.s2 + Nd.st ⟨.skp,a⟩ 2/\x6.den (aB t a)=t.s3 + Nd.st ⟨.skp,a⟩ 3) :
  (Eb i x3 x4 x5 x6).den (aB t a) (aB (t.add ⟨.skp,a⟩) []):=by
 refine ⟨fun (e:a.getD 4 0=3)=>i8 q ⟨aP e ?_,aP e ?_,aP e ?_,gS e⟩ rfl rfl rfl,fun n3=>⟨fun (e:a.getD 4 0=2)=>i8 q ⟨aP e ?_,aP e ?_,gS e,aP e ?_⟩ rfl rfl rfl,fun n2=>⟨fun (e:a.getD 4 0=1)=>i8 q ⟨aP e ?_,gS e,aP e ?_,aP e ?_⟩ rfl rfl rfl,
  fun n1=>⟨fun (e:a.getD 4 0=0)=>i8 q ⟨gS e,aP e ?_,aP e ?_,aP e ?_⟩ rfl rfl rfl,fun n0=>n0 (D4 h n3 n2 n1)⟩⟩⟩⟩ <;> decide
theorem vF (P:Params) {nd:Nd} {i:Nat} (ok:nd.ok):(oS P i nd.k).den (aB t nd.a) (aB (t.add nd) []):=by
 have z:∀k:Int,(0:Int)=0:=fun zw=>rfl
 match nd with
 | ⟨k,a⟩ =>
 induction k with
 | chr=>rw [wr]; exact ⟨ok.1,ok.2,ok.1,ok.2,ok.1,ok.2,cC z z rfl rfl rfl⟩
 | dsc1=>rw [rY]; exact ⟨ok.1,ok.2,ok.1,ok.2,ok.1,ok.2,cC z z rfl rfl rfl⟩
 | dsc2=>rw [rH]; exact ⟨ok.1,ok.2,ok.1,ok.2,ok.1,ok.2,cC z z rfl rfl rfl⟩
 | skp =>
  have h:0<=a.getD 4 0/\a.getD 4 0<=3:=ok.2.2
  rw [xL]
  refine ⟨fun (e:a.getD 2 0=3)=>kh h ⟨aP e ?_,aP e ?_,aP e ?_,gS e⟩,fun n3=>⟨fun (e:a.getD 2 0=2)=>kh h ⟨aP e ?_,aP e ?_,gS e,aP e ?_⟩,fun n2=>⟨fun (e:a.getD 2 0=1)=>kh h ⟨aP e ?_,gS e,aP e ?_,aP e ?_⟩,
   fun n1=>⟨fun (e:a.getD 2 0=0)=>kh h ⟨gS e,aP e ?_,aP e ?_,aP e ?_⟩,fun n0=>n0 (D4 ⟨ok.1,ok.2.1⟩ n3 n2 n1)⟩⟩⟩⟩ <;> decide
 | krn=>rw [wD]; exact cC z z rfl rfl rfl
 | box2=>rw [uo]; exact cC z z rfl rfl rfl
 | box3=>rw [sX]; exact cC z z rfl rfl rfl
 | pck=>rw [vY]; exact cC z z rfl rfl rfl
 | rul=>rw [vV]; exact cC z z rfl rfl rfl
 | rul4=>rw [sr]; exact cC z z rfl rfl rfl
 | dsc0=>rw [uk]; exact cC z z rfl rfl rfl
 | pen=>rw [vm]; exact cC z z rfl rfl rfl
 | mth=>rw [yF]; exact cC z z rfl rfl rfl
end
noncomputable def MR:List (Str×AV):=[(S' "items",.loc 3),(S' "totals",.loc 7),(S' "height",.int (.v 0)),(S' "depth",.int (.v 1))]
noncomputable def xf (b:Nat):List AO:=[.lst [.int (.v 3),.int (.v 4),.int (.v 5),.int (.v 6)],.lst [.int (.v 7),.int (.v 8),.int (.v 9),.int (.v 10)],.ns [(S' "shrink",.loc (b + 1)),(S' "stretch",.loc b),(S' "natural",.int (.v 2))],.inst 309 (b + 2)]
noncomputable def DG:St:=⟨[(S' "items",.loc 3)],[],bl++[.dead],[]⟩
noncomputable def Du (more:List AO):St:=⟨MR,[],bl++[.dead]++xf 4++more,[]⟩
noncomputable def KF (P:Params):St:=⟨[(S' "totals",.loc 8),(S' "height",.int (.v 0)),(S' "depth",.int (.v 1))],[],bl++[.dead,.dead]++xf 5,[]⟩
noncomputable def GJ:List AO:=bl++[.dead,.dead]++xf 5++[.tup [.loc 8,.int (.v 0),.int (.v 1)]]
noncomputable def iL (P:Params):Stmt:=(al P 595).getD 2 (.Pass default)
noncomputable def B1 (P:Params):VC:=(A1 P vD 37 (bp P 595) ((al P 595).take 2) DG).vc [0,1,2,3,6,7,4,5] .nx (Du [])
noncomputable def CV (P:Params):VC:=(Gh P vD 37 (bp P 595) (aR (iL P)) (Du [])).vc [0,1,2,3,4,5,6,7] (.rt (.loc 3)) (Du [])
noncomputable def vL (P:Params):VC:=(A1 P vD 37 (bp P 595) ((al P 595).drop 3) (KF P)).vc [0,1,2,3,4,5,6,7,8,9] (.rt (.loc 9)) ⟨[],[],GJ,[]⟩
theorem vr (P:Params):al P 595=(al P 595).take 2++(.For (.Name (bj (cy (iL P))) (aS (cy (iL P)))) (aR (iL P)) (bg (iL P)) [] (iL P).pos::(al P 595).drop 3):=by kernel_rfl
theorem Ek (P:Params):dL P 595=some (aZ P 595):=by kernel_rfl
theorem wE (P:Params):aQ (aZ P 595) [.loc 3]=some [(S' "items",.loc 3)]:=by kernel_rfl
theorem F8 (P:Params):(⟨[(S' "items",AV.loc 3)].reverse.filter (fun x=>decide ((aZ P 595).scope.names.lookup x.1=some .local)),(ae (aZ P 595).scope.names).zip ((List.range (ae (aZ P 595).scope.names).length).map ((bl++[AO.dead]).length + ·)),(bl++[.dead])++(ae (aZ P 595).scope.names).map (fun n=>.cell ([(S' "items",AV.loc 3)].reverse.lookup n)),[]⟩:St)=DG:=by kernel_rfl
theorem AC (P:Params):cp (aR (iL P))=false:=by kernel_rfl
theorem qA (P:Params):B1 P=VC.ok [Ob1.ie (IE.c 1) (IE.c 1),Ob1.ie (IE.c 0) (IE.v 3),Ob1.ie (IE.c 0) (IE.v 4),Ob1.ie (IE.c 0) (IE.v 5),Ob1.ie (IE.c 0) (IE.v 6),Ob1.ie (IE.c 0) (IE.v 7),Ob1.ie (IE.c 0) (IE.v 8),Ob1.ie (IE.c 0) (IE.v 9),Ob1.ie (IE.c 0) (IE.v 10),Ob1.ie (IE.c 0) (IE.v 2),Ob1.ie (IE.c 0) (IE.v 0),Ob1.ie (IE.c 0) (IE.v 1)]:=by kernel_rfl
theorem sY (P:Params):CV P=VC.ok [Ob1.ie (IE.c 1) (IE.c 1),Ob1.ie (IE.v 3) (IE.v 3),Ob1.ie (IE.v 4) (IE.v 4),Ob1.ie (IE.v 5) (IE.v 5),Ob1.ie (IE.v 6) (IE.v 6),Ob1.ie (IE.v 7) (IE.v 7),Ob1.ie (IE.v 8) (IE.v 8),Ob1.ie (IE.v 9) (IE.v 9),Ob1.ie (IE.v 10) (IE.v 10),Ob1.ie (IE.v 2) (IE.v 2),Ob1.ie (IE.v 0) (IE.v 0),Ob1.ie (IE.v 1) (IE.v 1)]:=by kernel_rfl
theorem nj (P:Params):vL P=VC.ok [Ob1.ie (IE.c 1) (IE.c 1),Ob1.ie (IE.v 3) (IE.v 3),Ob1.ie (IE.v 4) (IE.v 4),Ob1.ie (IE.v 5) (IE.v 5),Ob1.ie (IE.v 6) (IE.v 6),Ob1.ie (IE.v 7) (IE.v 7),Ob1.ie (IE.v 8) (IE.v 8),Ob1.ie (IE.v 9) (IE.v 9),Ob1.ie (IE.v 10) (IE.v 10),Ob1.ie (IE.v 2) (IE.v 2),Ob1.ie (IE.v 0) (IE.v 0),Ob1.ie (IE.v 1) (IE.v 1)]:=by kernel_rfl
theorem yz (i:Nat):aN [0,1,2,3,8,4,5,6,7] (Du [.lit 3 0]) (rk 0 [])=some [Ob1.ie (IE.c 1) (IE.c 1),Ob1.nat 0 0,Ob1.ie (IE.v 3) (IE.v 3),Ob1.ie (IE.v 4) (IE.v 4),Ob1.ie (IE.v 5) (IE.v 5),Ob1.ie (IE.v 6) (IE.v 6),Ob1.ie (IE.v 7) (IE.v 7),Ob1.ie (IE.v 8) (IE.v 8),Ob1.ie (IE.v 9) (IE.v 9),Ob1.ie (IE.v 10) (IE.v 10),Ob1.ie (IE.v 2) (IE.v 2),Ob1.ie (IE.v 0) (IE.v 0),Ob1.ie (IE.v 1) (IE.v 1)]:=by kernel_rfl
theorem xy (i:Nat):aN [0,1,2,3,4,5,6,7,8] (rk i []) (rk i [])=some [Ob1.ie (IE.c 1) (IE.c 1),Ob1.nat i i,Ob1.ie (IE.v 3) (IE.v 3),Ob1.ie (IE.v 4) (IE.v 4),Ob1.ie (IE.v 5) (IE.v 5),Ob1.ie (IE.v 6) (IE.v 6),Ob1.ie (IE.v 7) (IE.v 7),Ob1.ie (IE.v 8) (IE.v 8),Ob1.ie (IE.v 9) (IE.v 9),Ob1.ie (IE.v 10) (IE.v 10),Ob1.ie (IE.v 2) (IE.v 2),Ob1.ie (IE.v 0) (IE.v 0),Ob1.ie (IE.v 1) (IE.v 1)]:=by kernel_rfl
theorem uZ (P:Params) (i:Nat):aN [0,1,2,3,4,5,6,7,8] ⟨(rk i []).ls,[],(rk i []).ob.set 4 .dead,[]⟩ (KF P)=some [Ob1.ie (IE.c 1) (IE.c 1),Ob1.ie (IE.v 3) (IE.v 3),Ob1.ie (IE.v 4) (IE.v 4),Ob1.ie (IE.v 5) (IE.v 5),Ob1.ie (IE.v 6) (IE.v 6),Ob1.ie (IE.v 7) (IE.v 7),Ob1.ie (IE.v 8) (IE.v 8),Ob1.ie (IE.v 9) (IE.v 9),Ob1.ie (IE.v 10) (IE.v 10),Ob1.ie (IE.v 2) (IE.v 2),Ob1.ie (IE.v 0) (IE.v 0),Ob1.ie (IE.v 1) (IE.v 1)]:=by kernel_rfl
section
variable {w:World} {A:Around} {gs:Array GenState} {dr:Drawn} {os:OsState} {g:Gr} {F:List Addr} {h:Heap} {n:Nat} {a:Addr} {Vs:List Value} {nds:List Nd}
theorem yB (W:Wd w h) (kg:∀a o,g a=some o->h.get? a=some o) (Fo:aU w g F) (It:Items g F a Vs nds) (R:Room A 41) {Q:Value->Shared->Prop} {E:Value->Shared->Prop}
  (q:∀V h' n' as',Co w (aB (ad nds) []) (OG w g) h.get? h' GJ [] as'->Dn (aB (ad nds) []) as' (.loc 9) V->Q V ⟨h',gs,dr,n',os⟩):wpAny (model pr w) A (call (.ref 595) [.ref a]) Q E ⟨h,gs,dr,n,os⟩:=by
 match F,id Fo with
 | _,⟨f0,f1,f2,rfl,_⟩ =>
 have C0:Co w (aB (ad nds) []) (OG w g) h.get? h (bl++[.dead]) [] [f0,f1,f2,a]:=Co.all W kg ((gp Fo).app (.cons ⟨trivial,rfl⟩ .nil))
 refine go R (Ek w.params) (wE w.params) C0 (.cons ⟨a,rfl,rfl⟩ .nil) fun A' env h1 n1 as1 R1 esc p1 S1 E'=>?_
 refine dh fun Q' E' kq zw=>?_
 replace esc:env.scope=bp w.params 595:=esc
 rw [F8,p1.eq S1.sz] at S1
 refine aa (show (aZ w.params 595).body=_ from vr w.params) ?_
 refine aH (L2 (ρ':=aB (ad []) []) (dZ rfl) esc (qA w.params) R1 S1 ⟨rfl,rfl,rfl,rfl,rfl,rfl,rfl,rfl,rfl,rfl,rfl,rfl⟩ fun h2 as2 n2 S2 p2=>?_)
 apply bc;intro ng
 obtain ⟨t,rfl⟩:=p2
 replace S2:SR w (aB (ad []) []) (OG w g) h.get? env h2 (Du []) [f0,f1,f2,a,t.getD 2 0,t.getD 3 0,t.getD 0 0,t.getD 1 0]:=S2
 generalize t.getD 0 0=u0 at S2; generalize t.getD 1 0=u1 at S2; generalize t.getD 2 0=u2 at S2; generalize t.getD 3 0=u3 at S2
 apply ng;clear ng
 refine wpAny_execs_cons (wpAny_For (EN (ρ':=aB (ad []) []) (dZ rfl) esc (sY w.params) R1 S2 rfl (as2:=[f0,f1,f2,a,u2,u3,u0,u1]) rfl ⟨rfl,rfl,rfl,rfl,rfl,rfl,rfl,rfl,rfl,rfl,rfl,rfl⟩ fun V h3 n3 S3 dv=>?_) (dH (AC w.params)))
 refine aa (sF dv rfl) ?_
 have hl:h3.IsList a Vs.toArray:=It.list.le fun o e=>S3.kp _ _ (kg _ _ e)
 refine wpAny_pyIter_list (s:=⟨h3,gs,dr,n3,os⟩) hl ?_
 have S4:=S3.push { cls:=.type "list_iterator",data:=.fields #[.ref a,rawInt 0] } (ao:=.lit 3 0) ⟨a,rfl,_,Heap.get?_push_size _ rfl,rfl,rfl⟩
 have S5:SR w (aB (ad (nds.take 0)) []) (OG w g) h.get? env _ (rk 0 []) [f0,f1,f2,a,h3.objs.size,u2,u3,u0,u1]:=S4.re (s':=rk 0 []) (ρ':=aB (ad []) []) [0,1,2,3,8,4,5,6,7] (yz 0) ⟨rfl,rfl,rfl,rfl,rfl,rfl,rfl,rfl,rfl,rfl,rfl,rfl,rfl⟩
 refine wy R1 (m:=4) (j:=3) (It.list.le (kg _)) rfl rfl (fun i=>aB (ad (nds.take i)) []) (fun i=>rk i []) (fun zw=>rfl) (fun i h6 n6 V hV S6 Q2 E1 E2 q2=>?_) (fun h6 n6 S6=>?_) S5
 ·apply bc;intro ng
  obtain ⟨nd,hnd,x,rfl,N,ok⟩:=It.nodes.get hV
  obtain ⟨nas,na,nx⟩:=jJ N (as:=[f0,f1,f2,a,h3.objs.size,u2,u3,u0,u1]) rfl rfl (ρ:=aB (ad (nds.take i)) nd.a) fun j=>MZ
  apply ng;clear ng
  have S7:=S6.re (s':=rk (i + 1) []) (ρ':=aB (ad (nds.take i)) nd.a) [0,1,2,3,4,5,6,7,8] (xy (i + 1)) ⟨rfl,rfl,rfl,rfl,rfl,rfl,rfl,rfl,rfl,rfl,rfl,rfl,rfl⟩
  refine yN (m:=[0,1,2,3,4,5,6,7,8]) (s':=rk (i + 1) []) (v:=.loc (9 + nd.k.last)) (dZ rfl) (by refine aa esc ?_; rfl) R1 (S7.join nx) ⟨x,(List.getElem?_append_right (Nat.le_add_right 9 _)).trans ((congrArg (nas[·]?) (Nat.add_sub_cancel_left 9 _)).trans na),rfl⟩ (vF w.params (t:=ad (nds.take i)) (i:=i) ok) fun Fl h9 as9 n9 hfl S9 p9=>?_
  apply bc;intro ng
  obtain ⟨t,rfl⟩:=p9
  exact ng (q2 _ _ _ hfl (qn hnd▸S9))
 ·have S7:=S6.re (s':=KF w.params) (ρ':=aB (ad nds) []) [0,1,2,3,4,5,6,7,8] (uZ w.params _) (by
   refine aa (show nds.take Vs.length=nds by rw [It.nodes.len,List.take_length]) ?_; exact ⟨rfl,rfl,rfl,rfl,rfl,rfl,rfl,rfl,rfl,rfl,rfl,rfl⟩)
  exact Mo (ρ':=aB (ad nds) []) (dZ rfl) esc (nj w.params) R1 S7 ⟨rfl,rfl,rfl,rfl,rfl,rfl,rfl,rfl,rfl,rfl,rfl,rfl⟩ fun V h8 as8 n8 S8 p8 dv=>kq _ _ (q V _ _ _ S8.out dv)
end
structure Bx where
 s:Int
 o:Int
 p:Int
 q:Int
structure Pl where
 fx:Int
 fl:Int
 out:List Int
noncomputable def zN (n b:Int):Int:=if n < 0 then -((b - 2 * n) / (2 * b)) else (2 * n + b) / (2 * b)
noncomputable def Nd.fl (B:Bx) (nd:Nd):Int:=match nd.k with
 | .skp=>if B.s=1/\nd.i 2=B.o then nd.i 1 else if B.s=2/\nd.i 4=B.o then -(nd.i 3) else 0
 | _=>0
noncomputable def Pl.add (B:Bx) (t:Pl) (nd:Nd):Pl:=⟨t.fx + nd.w,t.fl + nd.fl B,t.out++[t.fx + nd.w + zN (B.p * (t.fl + nd.fl B)) B.q]⟩
noncomputable def cf (B:Bx) (t:Pl) (a:List Int):Rho:=⟨fun i=>([t.fx,t.fl,B.s,B.o,B.p,B.q,0,0,0,0,0]++a).getD i 0,ff,fun i=>if i=0 then t.out else []⟩
noncomputable def pD:List AO:=[.fz (.tup [.int (.v 4),.int (.v 5)]),.fz (.ns [(S' "ratio",.loc 6),(S' "order",.int (.v 3)),(S' "sign",.int (.v 2)),(S' "shift",.any),(S' "items",.loc 3),(S' "depth",.any),(S' "height",.any),(S' "width",.any),(S' "kind",.int (.c 2))]),.fz (.inst 389 7)]
noncomputable def Mz:List (Str×AV):=[(S' "box",.loc 8),(S' "found",.loc 5),(S' "fixed",.int (.v 0)),(S' "flexed",.int (.v 1))]
noncomputable def rg (i:Nat) (more:List AO):St:=⟨Mz,[],bl++[.dead,.lit 3 i,.il 0 []]++pD++more,[]⟩
noncomputable def gh (P:Params):Stmt:=(al P 644).getD 3 (.Pass default)
noncomputable def on (P:Params) (i:Nat) (k:Nk):VC :=
 (GL P vD 37 (bp P 644) (bj (cy (gh P))) (.loc (9 + k.last)) (bg (gh P)) (rg (i + 1) ((k.T 9 11).map .fz))).vc [0,1,2,3,4,5,6,7,8] .ct (rg (i + 1) [])
noncomputable def tW:St:=⟨[(S' "box",.loc 8)],[],bl++[.dead,.dead,.dead]++pD,[]⟩
noncomputable def yS (more:List AO):St:=⟨Mz,[],bl++[.dead,.dead,.il 0 []]++pD++more,[]⟩
noncomputable def IY:List AO:=bl++[.dead,.dead,.il 0 []]++pD
noncomputable def BI (P:Params):VC:=(A1 P vD 37 (bp P 644) ((al P 644).take 3) tW).vc [0,1,2,3,4,9,6,7,8] .nx (yS [])
noncomputable def FC (P:Params):VC:=(Gh P vD 37 (bp P 644) (aR (gh P)) (yS [])).vc [0,1,2,3,4,5,6,7,8] (.rt (.loc 3)) (yS [])
noncomputable def wH (P:Params):VC:=(A1 P vD 37 (bp P 644) ((al P 644).drop 4) (yS [])).vc [0,1,2,3,4,5,6,7,8] (.rt (.loc 5)) ⟨[],[],IY,[]⟩
theorem wx (P:Params):al P 644=(al P 644).take 3++(.For (.Name (bj (cy (gh P))) (aS (cy (gh P)))) (aR (gh P)) (bg (gh P)) [] (gh P).pos::(al P 644).drop 4):=by kernel_rfl
theorem DZ (P:Params):dL P 644=some (aZ P 644):=by kernel_rfl
theorem xZ (P:Params):aQ (aZ P 644) [.loc 8]=some [(S' "box",.loc 8)]:=by kernel_rfl
theorem D0 (P:Params):(⟨[(S' "box",AV.loc 8)].reverse.filter (fun x=>decide ((aZ P 644).scope.names.lookup x.1=some .local)),(ae (aZ P 644).scope.names).zip ((List.range (ae (aZ P 644).scope.names).length).map (tW.ob.length + ·)),tW.ob++(ae (aZ P 644).scope.names).map (fun n=>.cell ([(S' "box",AV.loc 8)].reverse.lookup n)),[]⟩:St)=tW:=by kernel_rfl
theorem BO (P:Params):cp (aR (gh P))=false:=by kernel_rfl
noncomputable def Jo (i:Nat) (w y z:IE):VC:=.req (.lt (.c 0) (.mul (.c 2) (.v 5))) (.req (.lt (.mul (.c 2) (.v 5)) (.c 1606938044258990275541962092341162602522202993782792835301376)) (.req (.ilen 0 0) (.ok [.ie (.c 1) (.c 1),.nat (i + 1) (i + 1),.il 0 [.add (.add (.v 0) w) z] 0 [],.ie (.v 4) (.v 4),.ie (.v 5) (.v 5),.ie (.v 3) (.v 3),.ie (.v 2) (.v 2),.ie (.c 2) (.c 2),.ie (.add (.v 0) w) (.v 0),.ie y (.v 1)])))
noncomputable def ms (i:Nat) (w y:IE):VC:=.req (.mulok (.v 4) y) (.br (.le (.v 5) (.c 0)) .fail (.br (.lt (.mul (.v 4) y) (.c 0)) (Jo i w y (.neg (.div (.sub (.v 5) (.mul (.c 2) (.mul (.v 4) y))) (.mul (.c 2) (.v 5))))) (Jo i w y (.div (.add (.mul (.c 2) (.mul (.v 4) y)) (.v 5)) (.mul (.c 2) (.v 5))))))
noncomputable def Mn (i:Nat):VC:=ms i (.v 11) (.add (.v 1) (.c 0))
noncomputable def G5 (i:Nat):VC:=.br (.eq (.v 2) (.c 2)) (.br (.eq (.v 15) (.v 3)) (ms i (.v 11) (.add (.v 1) (.neg (.v 14)))) (Mn i)) (Mn i)
theorem xS (P:Params) (i:Nat):on P i .skp = .br (.eq (.v 2) (.c 1)) (.br (.eq (.v 13) (.v 3)) (ms i (.v 11) (.add (.v 1) (.v 12))) (G5 i)) (G5 i):=by kernel_rfl
theorem wq (P:Params) (i:Nat):on P i .krn=ms i (.v 11) (.v 1):=by kernel_rfl
theorem rG (P:Params) (i:Nat):on P i .box2=ms i (.v 11) (.v 1):=by kernel_rfl
theorem uF (P:Params) (i:Nat):on P i .box3=ms i (.v 11) (.v 1):=by kernel_rfl
theorem xI (P:Params) (i:Nat):on P i .pck=ms i (.v 11) (.v 1):=by kernel_rfl
theorem xB (P:Params) (i:Nat):on P i .rul=ms i (.v 11) (.v 1):=by kernel_rfl
theorem ug (P:Params) (i:Nat):on P i .rul4=ms i (.v 11) (.v 1):=by kernel_rfl
theorem wU (P:Params) (i:Nat):on P i .mth=ms i (.v 11) (.v 1):=by kernel_rfl
theorem uc (P:Params) (i:Nat):on P i .dsc0=ms i (.c 0) (.v 1):=by kernel_rfl
theorem wI (P:Params) (i:Nat):on P i .pen=ms i (.c 0) (.v 1):=by kernel_rfl
theorem wl (P:Params) (i:Nat):on P i .chr=rc (ms i (.fn 1 (.v 11) (.c 0) (.c 0)) (.v 1)):=by kernel_rfl
theorem uD (P:Params) (i:Nat):on P i .dsc1=rc (ms i (.fn 1 (.v 11) (.c 0) (.c 0)) (.v 1)):=by kernel_rfl
theorem rz (P:Params) (i:Nat):on P i .dsc2=rc (ms i (.add (.fn 1 (.v 11) (.c 0) (.c 0)) (.v 12)) (.v 1)):=by kernel_rfl
theorem qh (P:Params):BI P=VC.ok [Ob1.ie (IE.c 1) (IE.c 1),Ob1.ii [IE.c 0] 0 [],Ob1.ie (IE.v 4) (IE.v 4),Ob1.ie (IE.v 5) (IE.v 5),Ob1.ie (IE.v 3) (IE.v 3),Ob1.ie (IE.v 2) (IE.v 2),Ob1.ie (IE.c 2) (IE.c 2),Ob1.ie (IE.c 0) (IE.v 0),Ob1.ie (IE.c 0) (IE.v 1)]:=by kernel_rfl
theorem sw (P:Params):FC P=VC.ok [Ob1.ie (IE.c 1) (IE.c 1),Ob1.il 0 [] 0 [],Ob1.ie (IE.v 4) (IE.v 4),Ob1.ie (IE.v 5) (IE.v 5),Ob1.ie (IE.v 3) (IE.v 3),Ob1.ie (IE.v 2) (IE.v 2),Ob1.ie (IE.c 2) (IE.c 2),Ob1.ie (IE.v 0) (IE.v 0),Ob1.ie (IE.v 1) (IE.v 1)]:=by kernel_rfl
theorem mJ (P:Params):wH P=VC.ok [Ob1.ie (IE.c 1) (IE.c 1),Ob1.il 0 [] 0 [],Ob1.ie (IE.v 4) (IE.v 4),Ob1.ie (IE.v 5) (IE.v 5),Ob1.ie (IE.v 3) (IE.v 3),Ob1.ie (IE.v 2) (IE.v 2),Ob1.ie (IE.c 2) (IE.c 2)]:=by kernel_rfl
theorem vM (i:Nat):aN [0,1,2,3,9,5,6,7,8] (yS [.lit 3 0]) (rg 0 [])=some [Ob1.ie (IE.c 1) (IE.c 1),Ob1.nat 0 0,Ob1.il 0 [] 0 [],Ob1.ie (IE.v 4) (IE.v 4),Ob1.ie (IE.v 5) (IE.v 5),Ob1.ie (IE.v 3) (IE.v 3),Ob1.ie (IE.v 2) (IE.v 2),Ob1.ie (IE.c 2) (IE.c 2),Ob1.ie (IE.v 0) (IE.v 0),Ob1.ie (IE.v 1) (IE.v 1)]:=by kernel_rfl
theorem yK (i:Nat):aN [0,1,2,3,4,5,6,7,8] (rg i []) (rg i [])=some [Ob1.ie (IE.c 1) (IE.c 1),Ob1.nat i i,Ob1.il 0 [] 0 [],Ob1.ie (IE.v 4) (IE.v 4),Ob1.ie (IE.v 5) (IE.v 5),Ob1.ie (IE.v 3) (IE.v 3),Ob1.ie (IE.v 2) (IE.v 2),Ob1.ie (IE.c 2) (IE.c 2),Ob1.ie (IE.v 0) (IE.v 0),Ob1.ie (IE.v 1) (IE.v 1)]:=by kernel_rfl
theorem wg (i:Nat):aN [0,1,2,3,4,5,6,7,8] ⟨(rg i []).ls,[],(rg i []).ob.set 4 .dead,[]⟩ (yS [])=some [Ob1.ie (IE.c 1) (IE.c 1),Ob1.il 0 [] 0 [],Ob1.ie (IE.v 4) (IE.v 4),Ob1.ie (IE.v 5) (IE.v 5),Ob1.ie (IE.v 3) (IE.v 3),Ob1.ie (IE.v 2) (IE.v 2),Ob1.ie (IE.c 2) (IE.c 2),Ob1.ie (IE.v 0) (IE.v 0),Ob1.ie (IE.v 1) (IE.v 1)]:=by kernel_rfl
section
variable {B:Bx} {t:Pl} {a:List Int}
theorem NM {j:Nat}:(cf B t a).v (11 + j)=a.getD j 0:=by
 show ([t.fx,t.fl,B.s,B.o,B.p,B.q,0,0,0,0,0]++a).getD (11 + j) 0=_
 unfold List.getD
 refine aa (List.getElem?_append_right (by simp)) ?_
 simp
structure Bx.ok (B:Bx):Prop where
 q0:1<=B.q
 q1:B.q < 2 ^ 100
 p:B.p.natAbs < 2 ^ 60
theorem j3 {n:Int} (h:n.natAbs < 2 ^ 60):Builtin.Int.intBits n<=64:=by
 unfold Builtin.Int.intBits
 split
 ·exact Nat.zero_le _
 ·rename_i hn
  have hn:n≠0:=by simpa using hn
  have:=(Nat.log2_lt (n:=n.natAbs) (k:=60) (by omega)).mpr h; omega
theorem EJ {q:Int} (h:1<=q) (k:q < 2 ^ 100):0 < 2 * q/\2 * q < 1606938044258990275541962092341162602522202993782792835301376:=by omega
theorem bK {nd:Nd} {i:Nat} {w y:IE} (hB:B.ok) (hl:t.out.length<=900) (c:w.den (cf B t nd.a)=nd.w) (d:y.den (cf B t nd.a)=t.fl + nd.fl B):(ms i w y).den (cf B t nd.a) (cf B (t.add B nd) []):=by
 have o:∀z:IE,z.den (cf B t nd.a)=zN (B.p * (t.fl + nd.fl B)) B.q->(Jo i w y z).den (cf B t nd.a) (cf B (t.add B nd) []):=fun z e=>by
  refine ⟨(EJ hB.q0 hB.q1).1,(EJ hB.q0 hB.q1).2,show t.out.length + 0<=1000 from Nat.le_trans hl (by decide),rfl,rfl,?_,rfl,rfl,rfl,rfl,rfl,congrArg (t.fx + ·) c,d⟩
  show t.out++[t.fx + w.den _ + z.den _]=(t.out++[t.fx + nd.w + zN (B.p * (t.fl + nd.fl B)) B.q])++[]
  rw [c,e,List.append_nil]
 refine ⟨IntMulOk.of_left (j3 hB.p),fun h=>Int.not_lt.mpr (show B.q<=0 from h) hB.q0,fun zw=>⟨fun h=>o _ ?_,fun h=>o _ ?_⟩⟩
 ·refine aa (Eq.symm d) ?_; exact (if_pos (show B.p * y.den _ < 0 from h)).symm
 ·refine aa (Eq.symm d) ?_; exact (if_neg (show ¬B.p * y.den _ < 0 from h)).symm
theorem u9 (P:Params) {nd:Nd} {i:Nat} (ok:nd.ok) (hB:B.ok) (hl:t.out.length<=900):(on P i nd.k).den (cf B t nd.a) (cf B (t.add B nd) []):=by
 have z:=(Int.add_zero t.fl).symm
 match nd with
 | ⟨k,a⟩ =>
 induction k with
 | chr=>rw [wl]; exact ⟨ok.1,ok.2,bK (nd:=⟨.chr,a⟩) hB hl rfl z⟩
 | dsc1=>rw [uD]; exact ⟨ok.1,ok.2,bK (nd:=⟨.dsc1,a⟩) hB hl rfl z⟩
 | dsc2=>rw [rz]; exact ⟨ok.1,ok.2,bK (nd:=⟨.dsc2,a⟩) hB hl rfl z⟩
 | skp =>
  have g:∀{x:Int},Nd.fl B ⟨.skp,a⟩=x->t.fl + x=t.fl + Nd.fl B ⟨.skp,a⟩:=fun e=>congrArg (t.fl + ·) e.symm
  have n:(¬(B.s=1/\a.getD 2 0=B.o))->(G5 i).den (cf B t a) (cf B (t.add B ⟨.skp,a⟩) []):=fun n1 =>
   ⟨fun h=>⟨fun h4=>bK (nd:=⟨.skp,a⟩) hB hl rfl (g ((if_neg n1).trans (if_pos ⟨h,h4⟩))),fun h4=>bK (nd:=⟨.skp,a⟩) hB hl rfl (g ((if_neg n1).trans (if_neg fun z=>h4 z.2)))⟩,fun h=>bK (nd:=⟨.skp,a⟩) hB hl rfl (g ((if_neg n1).trans (if_neg fun z=>h z.1)))⟩
  rw [xS]
  exact ⟨fun h=>⟨fun h2=>bK (nd:=⟨.skp,a⟩) hB hl rfl (g (if_pos ⟨h,h2⟩)),fun h2=>n fun z=>h2 z.2⟩,fun h=>n fun z=>h z.1⟩
 | krn=>rw [wq]; exact bK (nd:=⟨.krn,a⟩) hB hl rfl z
 | box2=>rw [rG]; exact bK (nd:=⟨.box2,a⟩) hB hl rfl z
 | box3=>rw [uF]; exact bK (nd:=⟨.box3,a⟩) hB hl rfl z
 | pck=>rw [xI]; exact bK (nd:=⟨.pck,a⟩) hB hl rfl z
 | rul=>rw [xB]; exact bK (nd:=⟨.rul,a⟩) hB hl rfl z
 | rul4=>rw [ug]; exact bK (nd:=⟨.rul4,a⟩) hB hl rfl z
 | mth=>rw [wU]; exact bK (nd:=⟨.mth,a⟩) hB hl rfl z
 | dsc0=>rw [uc]; exact bK (nd:=⟨.dsc0,a⟩) hB hl rfl z
 | pen=>rw [wI]; exact bK (nd:=⟨.pen,a⟩) hB hl rfl z
end
def Ao (g:Gr) (items b:Addr) (B:Bx):Prop:=∃r d,∀(as:List Addr) (ρ:Rho),as[3]? = some items->as[6]? = some r->as[7]? = some d->ρ.v 2=B.s->ρ.v 3=B.o->ρ.v 4=B.p->ρ.v 5=B.q->
 aO ρ as g r (.tup [.int (.v 4),.int (.v 5)])/\aO ρ as g d (.ns [(S' "ratio",.loc 6),(S' "order",.int (.v 3)),(S' "sign",.int (.v 2)),(S' "shift",.any),(S' "items",.loc 3),(S' "depth",.any),(S' "height",.any),(S' "width",.any),(S' "kind",.int (.c 2))])/\aO ρ as g b (.inst 389 7)
noncomputable def Pl.zero:Pl:=⟨0,0,[0]⟩
noncomputable def bw (B:Bx) (nds:List Nd):Pl:=nds.foldl (Pl.add B) Pl.zero
theorem mO {B:Bx} {nds:List Nd} {i:Nat} {nd:Nd} (h:nds[i]? = some nd):bw B (nds.take (i + 1))=(bw B (nds.take i)).add B nd:=by
 unfold bw
 refine aa List.take_add_one (aa h ?_)
 simp
theorem jt {B:Bx}:∀(nds:List Nd) (t:Pl),(nds.foldl (Pl.add B) t).out.length=t.out.length + nds.length
 | [],t=>rfl
 | nd::r,t=>by
  rw [List.foldl_cons,jt r]
  simp [Pl.add]; (first | lia | omega)
section
variable {w:World} {A:Around} {gs:Array GenState} {dr:Drawn} {os:OsState} {g:Gr} {F:List Addr} {h:Heap} {n:Nat} {a b:Addr} {Vs:List Value} {nds:List Nd} {B:Bx}
theorem oR (W:Wd w h) (kg:∀a o,g a=some o->h.get? a=some o) (Fo:aU w g F) (It:Items g F a Vs nds) (Bo:Ao g a b B) (hB:B.ok) (hn:nds.length<=800) (R:Room A 41) {Q:Value->Shared->Prop} {E:Value->Shared->Prop}
  (q:∀V h' n' as',Co w (cf B (bw B nds) []) (OG w g) h.get? h' IY [] as'->Dn (cf B (bw B nds) []) as' (.loc 5) V->Q V ⟨h',gs,dr,n',os⟩):wpAny (model pr w) A (call (.ref 644) [.ref b]) Q E ⟨h,gs,dr,n,os⟩:=by
 match F,id Fo with
 | _,⟨f0,f1,f2,rfl,_⟩ =>
 apply bc;intro ng
 obtain ⟨r,d,hbx⟩:=Bo
 have hb0:=hbx [f0,f1,f2,a,a,a,r,d,b] (cf B Pl.zero []) rfl rfl rfl rfl rfl rfl rfl
 have C0:Co w (cf B Pl.zero []) (OG w g) h.get? h tW.ob [] [f0,f1,f2,a,a,a,r,d,b] :=
  Co.all W kg ((gp (w:=w) (ρ:=cf B Pl.zero []) (rest:=[a,a,a,r,d,b]) (h:=h) Fo).app (.cons ⟨trivial,rfl⟩ (.cons ⟨trivial,rfl⟩ (.cons ⟨trivial,rfl⟩ (.cons ⟨hb0.1,rfl⟩ (.cons ⟨hb0.2.1,rfl⟩ (.cons ⟨hb0.2.2,rfl⟩ .nil)))))))
 refine ng (go R (DZ w.params) (xZ w.params) C0 (.cons ⟨b,rfl,rfl⟩ .nil) fun A' env h1 n1 as1 R1 esc p1 S1 E'=>?_); clear ng
 refine dh fun Q' E' kq zw=>?_
 replace esc:env.scope=bp w.params 644:=esc
 rw [D0 w.params,p1.eq S1.sz] at S1
 refine aa (show (aZ w.params 644).body=_ from wx w.params) ?_
 refine aH (L2 (ρ':=cf B (bw B []) []) (dZ rfl) esc (qh w.params) R1 S1 ⟨rfl,rfl,rfl,rfl,rfl,rfl,rfl,rfl,rfl⟩ fun h2 as2 n2 S2 p2=>?_)
 apply bc;intro ng
 obtain ⟨t,rfl⟩:=p2
 replace S2:SR w (cf B (bw B []) []) (OG w g) h.get? env h2 (yS []) [f0,f1,f2,a,a,t.getD 0 0,r,d,b]:=S2
 generalize t.getD 0 0=u0 at S2
 apply ng;clear ng
 refine wpAny_execs_cons (wpAny_For (EN (ρ':=cf B (bw B []) []) (dZ rfl) esc (sw w.params) R1 S2 rfl (as2:=[f0,f1,f2,a,a,u0,r,d,b]) rfl ⟨rfl,rfl,rfl,rfl,rfl,rfl,rfl,rfl,rfl⟩ fun V h3 n3 S3 dv=>?_) (dH (BO w.params)))
 refine aa (sF dv rfl) ?_
 have hl:h3.IsList a Vs.toArray:=It.list.le fun o e=>S3.kp _ _ (kg _ _ e)
 refine wpAny_pyIter_list (s:=⟨h3,gs,dr,n3,os⟩) hl ?_
 have S4:=S3.push { cls:=.type "list_iterator",data:=.fields #[.ref a,rawInt 0] } (ao:=.lit 3 0) ⟨a,rfl,_,Heap.get?_push_size _ rfl,rfl,rfl⟩
 have S5:SR w (cf B (bw B (nds.take 0)) []) (OG w g) h.get? env _ (rg 0 []) [f0,f1,f2,a,h3.objs.size,u0,r,d,b]:=S4.re (s':=rg 0 []) (ρ':=cf B (bw B []) []) [0,1,2,3,9,5,6,7,8] (vM 0) ⟨rfl,rfl,rfl,rfl,rfl,rfl,rfl,rfl,rfl,rfl⟩
 refine wy R1 (m:=4) (j:=3) (It.list.le (kg _)) rfl rfl (fun i=>cf B (bw B (nds.take i)) []) (fun i=>rg i []) (fun zw=>rfl) (fun i h6 n6 V hV S6 Q2 E1 E2 q2=>?_) (fun h6 n6 S6=>?_) S5
 ·apply bc;intro ng
  obtain ⟨nd,hnd,x,rfl,N,ok⟩:=It.nodes.get hV
  obtain ⟨nas,na,nx⟩:=jJ N (as:=[f0,f1,f2,a,h3.objs.size,u0,r,d,b]) rfl rfl (ρ:=cf B (bw B (nds.take i)) nd.a) fun j=>NM
  apply ng;clear ng
  have S7:=S6.re (s':=rg (i + 1) []) (ρ':=cf B (bw B (nds.take i)) nd.a) [0,1,2,3,4,5,6,7,8] (yK (i + 1)) ⟨rfl,rfl,rfl,rfl,rfl,rfl,rfl,rfl,rfl,rfl⟩
  have ln:(bw B (nds.take i)).out.length<=900:=by
   refine aa (show (bw B (nds.take i)).out.length=1 + (nds.take i).length from jt _ _) (aa List.length_take ?_)
   exact Nat.le_trans (Nat.add_le_add_left (Nat.le_trans (Nat.min_le_right _ _) hn) 1) (by decide)
  refine yN (m:=[0,1,2,3,4,5,6,7,8]) (s':=rg (i + 1) []) (v:=.loc (9 + nd.k.last)) (dZ rfl) (by refine aa esc ?_; rfl) R1 (S7.join nx) ⟨x,(List.getElem?_append_right (Nat.le_add_right 9 _)).trans ((congrArg (nas[·]?) (Nat.add_sub_cancel_left 9 _)).trans na),rfl⟩ (u9 w.params (B:=B) (t:=bw B (nds.take i)) (i:=i) ok hB ln) fun Fl h9 as9 n9 hfl S9 p9=>?_
  apply bc;intro ng
  obtain ⟨t,rfl⟩:=p9
  exact ng (q2 _ _ _ hfl (mO hnd▸S9))
 ·have S7:=S6.re (s':=yS []) (ρ':=cf B (bw B nds) []) [0,1,2,3,4,5,6,7,8] (wg _) (by
   refine aa (show nds.take Vs.length=nds by rw [It.nodes.len,List.take_length]) ?_; exact ⟨rfl,rfl,rfl,rfl,rfl,rfl,rfl,rfl,rfl⟩)
  exact Mo (ρ':=cf B (bw B nds) []) (dZ rfl) esc (mJ w.params) R1 S7 ⟨rfl,rfl,rfl,rfl,rfl,rfl,rfl⟩ fun V h8 as8 n8 S8 p8 dv=>kq _ _ (q V _ _ _ S8.out dv)
end
noncomputable def AV.shift (m:Nat):AV->AV | .loc i=>.loc (i + m) | v=>v
noncomputable def AO.shift (m:Nat):AO->AO
 | .lst vs=>.lst (vs.map (AV.shift m)) | .tup vs=>.tup (vs.map (AV.shift m)) | .ns fs=>.ns (fs.map fun p=>(p.1,p.2.shift m)) | .inst C j=>.inst C (j + m) | .pl vs=>.pl (vs.map (AV.shift m)) | o=>o
noncomputable def AO.plainA:AO->Bool | .lst _ | .tup _ | .ns _ | .inst _ _ | .pl _ | .il _ _=>true | _=>false
section
variable {w:World} {ρ ρ':Rho} {O O':Opq} {G:Gr}
theorem Dn.shift {as xs:List Addr} {v:AV} {V:Value} (d:Dn ρ xs v V):Dn ρ (as++xs) (v.shift as.length) V:=by
 induction v with
 | loc i =>
  obtain ⟨a,e,rfl⟩:=d
  exact ⟨a,by rw [List.getElem?_append_right (by (first | lia | omega)),Nat.add_sub_cancel]; exact e,rfl⟩
 | _=>exact d
theorem All2.shift {as xs:List Addr} {vs:List AV} {Vs:List Value} (x:All2 (Dn ρ xs) vs Vs):All2 (Dn ρ (as++xs)) (vs.map (AV.shift as.length)) Vs:=by
 induction x with | nil=>exact .nil | cons h _ ih=>exact .cons h.shift ih
theorem All2.shiftN {as xs:List Addr} {vs:List (Str×AV)} {Vs:List (Str×Value)} (x:All2 (Nm ρ xs) vs Vs):All2 (Nm ρ (as++xs)) (vs.map fun p=>(p.1,p.2.shift as.length)) Vs:=by
 induction x with | nil=>exact .nil | cons h _ ih=>exact .cons ⟨h.1,h.2.shift⟩ ih
theorem aO.shift {as xs:List Addr} {g:Gr} {a:Addr} {o:AO} (p:o.plainA=true) (x:aO ρ xs g a o):aO ρ (as++xs) g a (o.shift as.length)/\(o.shift as.length).own=true:=by
 induction o using AO.casesOn with
 | lst vs=>obtain ⟨Vs,y,z⟩:=x; exact ⟨⟨Vs,y.shift,z⟩,rfl⟩
 | tup vs=>obtain ⟨Vs,y,z⟩:=x; exact ⟨⟨Vs,y.shift,z⟩,rfl⟩
 | ns fs=>obtain ⟨Vs,y,z⟩:=x; exact ⟨⟨Vs,y.shiftN,z⟩,rfl⟩
 | inst C j=>obtain ⟨dx,y,z⟩:=x; exact ⟨⟨dx,by rw [List.getElem?_append_right (by (first | lia | omega)),Nat.add_sub_cancel]; exact y,z⟩,rfl⟩
 | pl vs=>obtain ⟨Vs,y,z⟩:=x; exact ⟨⟨Vs,y.shift,z⟩,rfl⟩
 | il b es=>exact ⟨x,rfl⟩
 | _=>exact bH p
theorem aC.ex {as:List Addr} {h:Heap} {a:Addr} {o:AO} (x:aC ρ O as h a o) (ow:o.own=true):∃y,h.get? a=some y:=by
 induction o using AO.casesOn with
 | lst vs=>exact let ⟨_,_,_,z,_⟩:=x; ⟨_,z⟩
 | tup vs=>exact let ⟨_,_,_,z,_⟩:=x; ⟨_,z⟩
 | ns vs=>exact let ⟨_,_,_,z,_⟩:=x; ⟨_,z⟩
 | inst C j=>exact let ⟨_,_,_,z,_⟩:=x; ⟨_,z⟩
 | cell v=>exact let ⟨_,_,_,z,_⟩:=x; ⟨_,z⟩
 | il b es=>exact let ⟨_,_,_,z,_⟩:=x; ⟨_,z⟩
 | pl vs=>exact let ⟨_,_,_,z,_⟩:=x; ⟨_,z⟩
 | raw t=>exact let ⟨_,z,_⟩:=x; ⟨_,z⟩
 | rf b=>exact let ⟨_,z,_⟩:=x; ⟨_,z⟩
 | dc ps=>exact let ⟨_,_,_,_,z,_⟩:=x; ⟨_,z⟩
 | lit j i=>exact let ⟨_,_,_,z,_⟩:=x; ⟨_,z⟩
 | tit j i=>exact let ⟨_,_,_,z,_⟩:=x; ⟨_,z⟩
 | opq k=>exact bH ow
 | dead=>exact bH ow
 | fz o=>exact bH ow
theorem Co.more {h h':Heap} {ob us:List AO} {pc:List (CE×Bool)} {as xs:List Addr} (S:Co w ρ O G h ob pc as) (N:Co w ρ O' h.get? h' us [] xs) (hp:us.all AO.plainA=true) :
  Co w ρ O G h' (ob++us.map (AO.shift as.length)) pc (as++xs):=by
 have lt:∀(i:Nat) o a,ob[i]? = some o->as[i]? = some a->o.own=true->∃x,h.get? a=some x:=fun i o a e e' ow=>((S.ob i o a e e').1).ex ow
 have S0:=S
 have S:=S.stay (h':=h') fun b o e=>N.kp b o e
 have pp:aM as (as++xs):=⟨_,rfl⟩
 have cs:∀(i:Nat) o a,(ob++us.map (AO.shift as.length))[i]? = some o->(as++xs)[i]? = some a->(ob[i]? = some o/\as[i]? = some a)\/∃j u,i=as.length + j/\us[j]? = some u/\xs[j]? = some a/\o=u.shift as.length:=fun i o a e e'=>by
  by_cases hi:i < ob.length
  ·rw [List.getElem?_append_left hi] at e
   rw [List.getElem?_append_left (by refine aa S.sz ?_; exact hi)] at e'
   exact .inl ⟨e,e'⟩
  ·rw [List.getElem?_append_right (by (first | lia | omega)),List.getElem?_map] at e
   rw [List.getElem?_append_right (by refine aa S.sz ?_; (first | lia | omega)),S.sz] at e'
   induction q:us[i - ob.length]? with
   | none=>rw [q] at e; exact ap e
   | some u=>rw [q] at e; cases e; exact .inr ⟨i - ob.length,u,by rw [S.sz]; (first | lia | omega),q,e',rfl⟩
 have nw:∀(j:Nat) u a,us[j]? = some u->xs[j]? = some a->aO ρ (as++xs) h'.get? a (u.shift as.length)/\(u.shift as.length).own=true/\u.own=true/\h.get? a=none:=fun j u a e e'=>by
  have pu:=List.all_eq_true.mp hp u (List.mem_of_getElem? e)
  obtain ⟨x,y⟩:=N.ob j u a e e'
  have ow:u.own=true:=by cases u <;> first | rfl | cases pu
  have x':aO ρ xs h'.get? a u:=by cases u <;> first | exact x | cases pu
  obtain ⟨z1,z2⟩:=x'.shift (as:=as) pu
  exact ⟨z1,z2,ow,y ow⟩
 refine ⟨S.bs,S.kp,S.og,by simp [S.sz,N.sz],fun i o a e e'=>?_,fun i i' o o' a e1 e2 w1 w2 e3 e4=>?_,S.pc⟩
 ·rcases cs i o a e e' with ⟨f1,f2⟩ | ⟨j,u,rfl,f2,f3,rfl⟩
  ·obtain ⟨x,y⟩:=S.ob i o a f1 f2
   exact ⟨x.keep pp fun zw zw ex=>ex,y⟩
  ·obtain ⟨z1,z2,z3,z4⟩:=nw j u a f2 f3
   refine ⟨aO.at (G:=h'.get?) (fun zw e=>e) z1,fun zw=>?_⟩
   induction q:G a with
   | none=>rfl
   | some x=>exact absurd (S0.kp _ _ q) (by rw [z4]; exact fun e=>by exact ap e)
 ·rcases cs i o a e1 e3 with ⟨f1,f2⟩ | ⟨j,u,rfl,f2,f3,rfl⟩
  ·rcases cs i' o' a e2 e4 with ⟨g1,g2⟩ | ⟨j',u',rfl,g2,g3,rfl⟩
   ·exact S.nd i i' o o' a f1 g1 w1 w2 f2 g2
   ·obtain ⟨x,ex⟩:=lt i o a f1 f2 w1
    rw [(nw j' u' a g2 g3).2.2.2] at ex; exact ap ex
  ·rcases cs i' o' a e2 e4 with ⟨g1,g2⟩ | ⟨j',u',rfl,g2,g3,rfl⟩
   ·obtain ⟨x,ex⟩:=lt i' o' a g1 g2 w2
    rw [(nw j u a f2 f3).2.2.2] at ex; exact ap ex
   ·have:=N.nd j j' u u' a f2 g2 (nw j u a f2 f3).2.2.1 (nw j' u' a g2 g3).2.2.1 f3 g3
    (first | lia | omega)
end
noncomputable def GE:List AO:=xf 0++[.tup [.loc 3,.int (.v 0),.int (.v 1)]]
theorem AX:aN [5,6,7,8,9] ⟨[],[],GJ,[]⟩ ⟨[],[],GE,[]⟩=some [.ie (.v 3) (.v 3),.ie (.v 4) (.v 4),.ie (.v 5) (.v 5),.ie (.v 6) (.v 6),.ie (.v 7) (.v 7),.ie (.v 8) (.v 8),.ie (.v 9) (.v 9),.ie (.v 10) (.v 10),.ie (.v 2) (.v 2),.ie (.v 0) (.v 0),.ie (.v 1) (.v 1)]:=by kernel_rfl
section
variable {w:World} {A:Around} {gs:Array GenState} {dr:Drawn} {os:OsState} {g:Gr} {F:List Addr} {h:Heap} {n:Nat} {a:Addr} {Vs:List Value} {nds:List Nd}
set_option tactic.hygienic true
theorem A7 (W:Wd w h) (kg:∀a o,g a=some o->h.get? a=some o) (Fo:aU w g F) (It:Items g F a Vs nds) (R:Room A 41) {ρ:Rho} (hρ:∀i,i < 11->ρ.v i=(aB (ad nds) []).v i) {Q:Value->Shared->Prop} {E:Value->Shared->Prop}
  (q:∀V h' n' xs,Co w ρ (OG w g) h.get? h' GE [] xs->Dn ρ xs (.loc 4) V->Q V ⟨h',gs,dr,n',os⟩):wpAny (model pr w) A (call (.ref 595) [.ref a]) Q E ⟨h,gs,dr,n,os⟩:=by
 refine yB W kg Fo It R fun V h' n' as' C dv=>?_
 have C2:=Co.re (s:=⟨[],[],GJ,[]⟩) (s':=⟨[],[],GE,[]⟩) (ρ':=ρ) C [5,6,7,8,9] AX (by
  exact ⟨(hρ 3 (by (first | decide | lia | omega))).symm,(hρ 4 (by (first | decide | lia | omega))).symm,(hρ 5 (by (first | decide | lia | omega))).symm,(hρ 6 (by (first | decide | lia | omega))).symm,(hρ 7 (by (first | decide | lia | omega))).symm,(hρ 8 (by (first | decide | lia | omega))).symm,(hρ 9 (by (first | decide | lia | omega))).symm,(hρ 10 (by (first | decide | lia | omega))).symm,(hρ 2 (by (first | decide | lia | omega))).symm,(hρ 0 (by (first | decide | lia | omega))).symm,(hρ 1 (by (first | decide | lia | omega))).symm⟩)
 exact q V h' n' _ C2 (bS (ρ:=aB (ad nds) []) (mp:=eX [5,6,7,8,9]) (u:=.loc 4) (l:=[]) (dw rfl) (by kernel_rfl) trivial dv)
set_option tactic.hygienic false
end
noncomputable def OH (g:Gr) (a:Addr) (Vs:List Value):Opq:=⟨g,fun k x=>At g x (.lst Vs)/\x=a/\((k=1/\Vs≠[])\/(k=2/\Vs = [])),fun x h=>⟨Vs,by rcases h.2.2 with z | z; exact z.2; exact absurd z.1 (by decide),h.1⟩,
 fun x h=>by rcases h.2.2 with z | z; exact absurd z.1 (by decide); exact z.2▸h.1⟩
noncomputable def Ai:AO->Bool | .opq k=>k == 1 || k == 2 | _=>false
noncomputable def rO (ob:List AO) (i:Nat):Bool:=match ob[i]? with | some o=>Ai o | none=>false
noncomputable def MG:Hk:=fun a args ob=>((be args).bind AV.l?).bind fun i=>if a == 595 && rO ob i then some ([],.loc (4 + ob.length),ob++GE.map (AO.shift ob.length)) else none
theorem Aa {w:World} {ρ:Rho} {g:Gr} {F:List Addr} {a:Addr} {Vs:List Value} {nds:List Nd} (Fo:aU w g F) (It:Items g F a Vs nds) (hρ:∀i,i < 11->ρ.v i=(aB (ad nds) []).v i):ay w ρ (OH g a Vs) MG 41:=by
 intro f args ob cs v ob' e hcs A gs dr os G h pc n as Us Q Er R S da q
 apply bc;intro ng
 obtain ⟨i,ei,e⟩:=az e
 obtain ⟨u,eu,ei⟩:=az ei
 obtain ⟨hc,e⟩:=cU e
 cases e
 rw [ba eu,bN ei] at da
 obtain ⟨b,hU,x,ex,hx⟩:=da.one
 have hx2:x=a:=by
  have hl:=au hc
  unfold rO at hl
  induction eo:ob[i]? with
  | none=>rw [eo] at hl; exact bH hl
  | some o =>
   rw [eo] at hl
   induction o using AO.casesOn with
   | opq k=>exact ((S.ob i _ x eo ex).1.2).2.1
   | _=>exact bH hl
 rw [hU,hx,hx2,aD (ag hc)] at ng
 refine ng (A7 S.wd (fun b o e=>S.kp _ _ (S.og _ _ e)) Fo It R hρ fun V h' n' xs N dv=>?_)
 have M:=S.more N rfl
 rw [S.sz] at M
 refine q V h' _ n' M ⟨_,rfl⟩ ?_
 have z:=dv.shift (as:=as)
 rw [S.sz] at z
 exact z
noncomputable def EI:AO->AO | .fz o=>o | o=>o
noncomputable def un (ob ob':List AO):Nat->List (AV×AV)->List (Nat×Nat)->List (Nat×Nat)
 | 0,_,acc=>acc
 | _,[],acc=>acc
 | n + 1,(.loc i,.loc j)::r,acc=>if (acc.lookup j).isSome then un ob ob' n r acc else
   (match (ob[i]?).map EI,(ob'[j]?).map EI with
   | some (.tup vs),some (.tup us)=>un ob ob' n (vs.zip us++r) ((j,i)::acc)
   | some (.lst vs),some (.lst us)=>un ob ob' n (vs.zip us++r) ((j,i)::acc)
   | some (.pl vs),some (.pl us)=>un ob ob' n (vs.zip us++r) ((j,i)::acc)
   | some (.pl vs),some (.lst us)=>un ob ob' n (vs.zip us++r) ((j,i)::acc)
   | some (.ns fs),some (.ns gs)=>un ob ob' n ((fs.map (·.2)).zip (gs.map (·.2))++r) ((j,i)::acc)
   | some (.inst _ a),some (.inst _ b)=>un ob ob' n ((.loc a,.loc b)::r) ((j,i)::acc)
   | _,_=>un ob ob' n r ((j,i)::acc))
 | n + 1,_::r,acc=>un ob ob' n r acc
noncomputable def po (f f':Fl) (s s':St) (acc:List (Nat×Nat)):List Nat:=match f,f' with
 | .rt v,.rt u=>(List.range s'.ob.length).map fun j=>((un s.ob s'.ob 200 [(v,u)] acc).lookup j).getD 0
 | _,_=>[]
noncomputable def Tr.vcA (acc:List (Nat×Nat)) (f':Fl) (s':St):Tr->VC
 | .leaf f s=>pe (aq (gV (po f f' s s' acc) f f') (aN (po f f' s s' acc) s s'))
 | .br c a b=>.br c (a.vcA acc f' s') (b.vcA acc f' s')
 | .req c t=>.req c (t.vcA acc f' s')
 | .fail=>.fail
theorem jX {ρ ρ':Rho} {acc:List (Nat×Nat)} {f':Fl} {s':St}:∀{t:Tr},(t.vcA acc f' s').den ρ ρ'->t.ok ρ fun f s=>∃m l0 l,gV m f f'=some l0/\bE ρ ρ' l0/\aN m s s'=some l/\bE ρ ρ' l
 | .leaf f s,y=>by
  obtain ⟨p,e,y1,y2⟩:=lF (x:=aq (gV (po f f' s s' acc) f f') (aN (po f f' s s' acc) s s')) y
  exact ⟨_,p.1,p.2,(ah e).1,y1,(ah e).2,y2⟩
 | .br c a b,y=>⟨fun h=>jX (y.1 h),fun h=>jX (y.2 h)⟩
 | .req c t,y=>⟨y.1,jX y.2⟩
 | .fail,y=>y
section
variable {w:World} {ρ ρ':Rho} {O:Opq} {A:Around} {gs:Array GenState} {dr:Drawn} {os:OsState} {G:Gr} {hk:Hk}
theorem DL {n0 r0:Nat} (H:ay w ρ O hk r0) {f:Addr} {args:List AV} {ob ob':List AO} {vc:VC} {acc:List (Nat×Nat)} {v:AV} (e:(sx w.params hk n0 f args ob).vcA acc (.rt v) ⟨[],[],ob',[]⟩=vc) {h:Heap} {n:Nat} {as:List Addr} {Us:List Value} {Q:Value->Shared->Prop} {E:Value->Shared->Prop} (R:Room A (n0 + r0))
  (S:Co w ρ O G h ob [] as) (da:All2 (Dn ρ as) args Us) (y:vc.den ρ ρ')
  (q:∀V h' xs n',Co w ρ' O G h' ob' [] xs->Dn ρ' xs v V->Q V ⟨h',gs,dr,n',os⟩):wpAny (model pr w) A (call (.ref f) Us) Q E ⟨h,gs,dr,n,os⟩:=by
 rw [<- e] at y
 refine LG H rfl R S da (Tr.mono ?_ (jX y))
 rintro f s3 zq9 u V h3 as3 n3 zq10 C3 p3 du
 apply bc;intro ng
 obtain ⟨m,l0,l,y1,y2,y3,y4⟩:=zq9
 obtain rfl:=zq10
 apply ng;clear ng
 exact q V h3 _ n3 (C3.re (s':=⟨[],[],ob',[]⟩) m y3 y4) (bS (dw rfl) y1 y2 du)
end
noncomputable def I2:List AO:=[.tup [.int (.v 14),.int (.v 15)],.tup [.int (.v 16),.int (.v 17)],.tup [.int (.v 12),.int (.v 13),.loc 0,.loc 1]]
noncomputable def Nn (P:Params):VC:=(sx P aA 40 616 [.loc 3,.int (.v 11)] ((xf 0).map .fz)).vcA [] (.rt (.loc 2)) ⟨[],[],I2,[]⟩
def VC.safe (ρ:Rho):VC->Prop
 | .ok _=>True
 | .br c a b=>(c.den ρ->a.safe ρ)/\(¬c.den ρ->b.safe ρ)
 | .req c t=>c.den ρ/\t.safe ρ
 | .fail=>False
noncomputable def Go (k:Nat) (o:Ob1):Option IE:=o.ie?.bind fun p=>p.2.v?.bind fun j=>match j == k with | true=>some p.1 | false=>none
noncomputable def bz (k:Nat):List Ob1->Option IE
 | []=>none
 | o::r=>(match Go k o with | some a=>some a | none=>bz k r)
theorem EG {k:Nat} {a e:IE} (h:e.v? = some k):Go k (.ie a e)=some a:=by
 show (e.v?.bind fun j=>match j == k with | true=>some a | false=>none)=_
 rw [h,Option.bind_some,beq_self_eq_true]
theorem E5 {k:Nat} {a e:IE} (h:e.v?≠some k):Go k (.ie a e)=none:=by
 show (e.v?.bind fun j=>match j == k with | true=>some a | false=>none)=_
 induction q:e.v? with
 | none=>rfl
 | some j=>rw [Option.bind_some,beq_eq_false_iff_ne.mpr fun z=>h (q.trans (congrArg some z))]
theorem vX {k:Nat} {a e:IE} {r:List Ob1} (h:e.v? = some k):bz k (.ie a e::r)=some a:=by
 show (match Go k (.ie a e) with | some a=>some a | none=>bz k r)=_
 exact aa (EG h) rfl
theorem uX {k:Nat} {a e:IE} {r:List Ob1} (h:e.v?≠some k):bz k (.ie a e::r)=bz k r:=by
 show (match Go k (.ie a e) with | some a=>some a | none=>bz k r)=_
 exact aa (E5 h) rfl
noncomputable def VC.ev (ρ:Rho) (k:Nat):VC->Int
 | .ok l=>match bz k l with | some e=>e.den ρ | none=>0
 | .br c a b=>@ite _ (c.den ρ) (Classical.propDecidable _) (a.ev ρ k) (b.ev ρ k)
 | .req _ t=>t.ev ρ k
 | .fail=>0
theorem mB {ρ:Rho} {k:Nat} {c:CE} {a b:VC} (h:c.den ρ):(VC.br c a b).ev ρ k=a.ev ρ k:=@if_pos _ (Classical.propDecidable _) h _ _ _
theorem sM {ρ:Rho} {k:Nat} {c:CE} {a b:VC} (h:¬c.den ρ):(VC.br c a b).ev ρ k=b.ev ρ k:=@if_neg _ (Classical.propDecidable _) h _ _ _
noncomputable def Gu (k:Nat) (r:List Ob1):Bool:=match bz k r with | none=>true | some _=>false
noncomputable def Ik (b:Nat) (r:List Ob1) (a:IE) (k:Nat):Bool:=match Nat.ble b k with | true=>Gu k r | false=>a.v?.any fun j=>j == k
noncomputable def JT (b:Nat) (r:List Ob1) (a e:IE):Bool:=match e.v? with
 | some k=>Ik b r a k
 | none=>e.c?.any fun n=>a.c?.any fun m=>decide (m=n)
noncomputable def VC.allL (p:List Ob1->Bool):VC->Bool
 | .ok l=>p l
 | .br _ x y=>x.allL p && y.allL p
 | .req _ t=>t.allL p
 | .fail=>true
noncomputable def VC.wf (b:Nat) (t:VC):Bool:=t.allL (jb (JT b))
theorem td {k:Nat} {r:List Ob1} (h:Gu k r=true):bz k r=none:=by
 unfold Gu at h
 induction q:bz k r with | none=>rfl | some _=>rw [q] at h; exact bH h
def Cj (b:Nat) (ρ ρ':Rho) (r:List Ob1) (a e:IE):Prop:=(∀k,e.v? = some k->b<=k->bz k r=none)/\((∀k,e.v? = some k->b<=k->ρ'.v k=a.den ρ)->a.den ρ=e.den ρ')
theorem nZ {b:Nat} {ρ ρ':Rho} {f:List Ob1->IE->IE->Bool} (hf:∀r a e,f r a e=true->Cj b ρ ρ' r a e) {l:List Ob1} (w:jb f l=true) (q:∀k e,b<=k->bz k l=some e->ρ'.v k=e.den ρ):bE ρ ρ' l:=by
 induction l with
 | nil=>trivial
 | cons o r ih =>
  obtain ⟨p,e,w1⟩:=cw (ag w)
  rw [ud e] at q ⊢
  obtain ⟨f1,f2⟩:=hf _ _ _ w1
  refine bE.cons.mpr (And.intro (f2 fun k ek hb=>q k _ hb (vX ek)) (ih (au w) fun k e' hb el=>q k e' hb ((uX fun ek=>?_).trans el)))
  rw [f1 k ek hb] at el
  exact ap el
theorem Aw {b:Nat} {ρ ρ':Rho} (h:∀i,i < b->ρ.v i=ρ'.v i) (r:List Ob1) (a e:IE) (w:JT b r a e=true):Cj b ρ ρ' r a e:=by
 unfold JT at w
 induction q:e.v? with
 | some k =>
  rw [q] at w
  have w:Ik b r a k=true:=w
  unfold Ik at w
  induction hb:Nat.ble b k with
  | true =>
   rw [hb] at w
   exact ⟨fun k' ek zw=>aF (q.symm.trans ek)▸td w,fun z=>by refine aa (dT q) ?_; exact (z k q (Nat.le_of_ble_eq_true hb)).symm⟩
  | false =>
   rw [hb] at w
   have hb:¬b<=k:=fun z=>bH (hb.symm.trans (Nat.ble_eq_true_of_le z))
   apply bc;intro ng
   obtain ⟨j,e1,w⟩:=cw w
   apply ng;clear ng
   refine ⟨fun k' ek h'=>absurd (aF (q.symm.trans ek)▸h') hb,fun zw=>?_⟩
   refine aa (dT q) (aa (dT e1) (aa (aD w) ?_))
   exact h k (Nat.lt_of_not_le hb)
 | none =>
  rw [q] at w
  apply bc;intro ng
  obtain ⟨n,e1,w⟩:=cw w
  obtain ⟨m,e2,w⟩:=cw w
  apply ng;clear ng
  refine ⟨fun k' ek zw=>ap (q.symm.trans ek),fun zw=>?_⟩
  refine aa (bP e1) (aa (bP e2) ?_); exact of_decide_eq_true w
theorem VC.fillG {b:Nat} {ρ ρ':Rho} {p:List Ob1->Bool} (hp:∀l,p l=true->(∀k e,b<=k->bz k l=some e->ρ'.v k=e.den ρ)->bE ρ ρ' l) {vc:VC} (w:vc.allL p=true) (s:vc.safe ρ) (q:∀k,b<=k->ρ'.v k=vc.ev ρ k):vc.den ρ ρ':=by
 induction vc with
 | ok l=>exact hp l w fun k e hk el=>(q k hk).trans (by unfold VC.ev; exact aa el rfl)
 | br c x y ix iy=>exact ⟨fun hc=>ix (ag w) (s.1 hc) fun k hk=>(q k hk).trans (mB hc),fun hc=>iy (au w) (s.2 hc) fun k hk=>(q k hk).trans (sM hc)⟩
 | req c t ih=>exact ⟨s.1,ih w s.2 q⟩
 | fail=>exact s.elim
theorem VC.fill {b:Nat} {ρ ρ':Rho} (h:∀i,i < b->ρ.v i=ρ'.v i) {vc:VC} (w:vc.wf b=true) (s:vc.safe ρ) (q:∀k,b<=k->ρ'.v k=vc.ev ρ k):vc.den ρ ρ':=VC.fillG (fun zw=>nZ (Aw h)) w s q
def VC.leafs (ρ:Rho) (φ:List Ob1->Prop):VC->Prop
 | .ok l=>φ l
 | .br c a b=>(c.den ρ->a.leafs ρ φ)/\(¬c.den ρ->b.leafs ρ φ)
 | .req c t=>c.den ρ->t.leafs ρ φ
 | .fail=>True
theorem VC.leaf {ρ:Rho} {φ:List Ob1->Prop} {vc:VC} (s:vc.safe ρ) (x:vc.leafs ρ φ):∃l,φ l/\∀k,vc.ev ρ k=(match bz k l with | some e=>e.den ρ | none=>0):=by
 induction vc with
 | ok l=>exact ⟨l,x,fun zw=>rfl⟩
 | br c a b ia ib =>
  rcases Classical.em (c.den ρ) with hc | hc
  ·obtain ⟨l,h1,h2⟩:=ia (s.1 hc) (x.1 hc)
   exact ⟨l,h1,fun k=>(mB hc).trans (h2 k)⟩
  ·obtain ⟨l,h1,h2⟩:=ib (s.2 hc) (x.2 hc)
   exact ⟨l,h1,fun k=>(sM hc).trans (h2 k)⟩
 | req c t ih=>exact ih s.2 (x s.1)
 | fail=>exact s.elim
noncomputable def VC.chk (p:List (CE×Bool)->List Ob1->Bool) (pc:List (CE×Bool)):VC->Bool
 | .ok l=>p pc l
 | .br c a b=>a.chk p ((c,true)::pc) && b.chk p ((c,false)::pc)
 | .req c t=>t.chk p ((c,true)::pc)
 | .fail=>true
theorem VC.chk_ok {ρ:Rho} {p:List (CE×Bool)->List Ob1->Bool} {vc:VC}:∀{pc:List (CE×Bool)},vc.chk p pc=true->(∀q∈pc,q.1.den ρ↔q.2=true)->vc.safe ρ->
  ∃l pc',p pc' l=true/\(∀q∈pc',q.1.den ρ↔q.2=true)/\∀k,vc.ev ρ k=(match bz k l with | some e=>e.den ρ | none=>0):=by
 have cn:∀{c:CE} {v:Bool} {pc:List (CE×Bool)},(c.den ρ↔v=true)->(∀q∈pc,q.1.den ρ↔q.2=true)->∀q∈(c,v)::pc,q.1.den ρ↔q.2=true:=fun hc h q m=>by
  cases m with | head=>exact hc | tail _ m=>exact h q m
 induction vc with
 | ok l=>exact fun {pc} c h zw=>⟨l,pc,c,h,fun zw=>rfl⟩
 | br x a b ia ib =>
  intro pc c h s
  rcases Classical.em (x.den ρ) with hc | hc
  ·obtain ⟨l,pc',h1,h2,h3⟩:=ia (ag c) (cn ⟨fun zw=>rfl,fun zw=>hc⟩ h) (s.1 hc)
   exact ⟨l,pc',h1,h2,fun k=>(mB hc).trans (h3 k)⟩
  ·obtain ⟨l,pc',h1,h2,h3⟩:=ib (au c) (cn ⟨fun z=>absurd z hc,fun z=>bH z⟩ h) (s.2 hc)
   exact ⟨l,pc',h1,h2,fun k=>(sM hc).trans (h3 k)⟩
 | req x t ih=>exact fun {pc} c h s=>ih c (cn ⟨fun zw=>rfl,fun zw=>s.1⟩ h) s.2
 | fail=>exact fun zw zw s=>s.elim
noncomputable def Ct (a b c d e f:IE):VC:=.ok [.ie a (.v 14),.ie b (.v 15),.ie c (.v 16),.ie d (.v 17),.ie e (.v 12),.ie f (.v 13)]
noncomputable def xV:IE:=.abs (.v 11)
noncomputable def E0 (q r b s o:IE):VC:=.br (.lt (.c 0) q) (Ct xV q r b s o) (Ct (.neg xV) (.neg q) r b s o)
noncomputable def Kx (q r b s:IE):VC:=.br (.eq q (.c 0)) (Ct (.c 0) (.c 1) r b (.c 0) (.c 0)) (E0 q r b s (.c 0))
noncomputable def MH (q s b:IE):VC:=.br (.lt (.v 11) (.c 0)) (.br (.lt q (.neg (.v 11))) (.br (.eq q (.c 0)) (Ct (.c 0) (.c 1) (.c 3) (.sub (.neg (.v 11)) q) (.c 0) (.c 0)) (Ct (.c 1) (.c 1) (.c 3) (.sub (.neg (.v 11)) q) (.c 2) (.c 0))) (Kx q s b s)) (Kx q s b s)
noncomputable def NI (x:IE) (k:IE->VC):VC:=.req (.mulok x x) (.req (.mulok (.mul x x) x) (k (.div (.add (.mul (.mul x x) x) (.c 131072)) (.c 262144))))
noncomputable def GM (x:IE) (k:IE->VC):VC:=.br (.lt (.c 1290) x) (k (.c 10000)) (NI x k)
noncomputable def L1 (q:IE) (k:IE->VC):VC:=.br (.lt xV (.c 0)) .fail (.br (.eq xV (.c 0)) (k (.c 0)) (.br (.le q (.c 0)) (k (.c 10000)) (.br (.le xV (.c 7230584)) (.req (.lt (.c 0) q) (.req (.lt q (.c (2 ^ 200))) (GM (.div (.mul xV (.c 297)) q) k)))
 (.br (.le (.c 1663497) q) (.req (.lt (.c 0) (.div q (.c 297))) (.req (.lt (.div q (.c 297)) (.c (2 ^ 200))) (GM (.div xV (.div q (.c 297))) k))) (GM xV k)))))
noncomputable def K6 (q1 q2 q3 q s:IE):VC:=.br (.eq q3 (.c 0)) (.br (.eq q2 (.c 0)) (.br (.eq q1 (.c 0)) (L1 q (MH q s)) (E0 q1 (.c 0) (.c 0) s (.c 1))) (E0 q2 (.c 0) (.c 0) s (.c 2))) (E0 q3 (.c 0) (.c 0) s (.c 3))
noncomputable def BF:VC:=.br (.eq (.v 11) (.c 0)) (Ct (.c 0) (.c 1) (.c 0) (.c 0) (.c 0) (.c 0)) (.br (.lt (.c 0) (.v 11)) (K6 (.v 4) (.v 5) (.v 6) (.v 3) (.c 1)) (K6 (.v 8) (.v 9) (.v 10) (.v 7) (.c 2)))
theorem AR (P:Params):Nn P=BF:=by kernel_rfl
theorem DY:BF.wf 12=true:=by kernel_rfl
section
variable {t:Tot} {e:Int}
theorem MA {x:Int} (h0:0<=x) (h1:¬1290 < x) (y:Int):IntMulOk x y/\IntMulOk y x:=by
 have:Builtin.Int.intBits x<=64:=j3 (by (first | lia | omega))
 exact ⟨IntMulOk.of_left this,IntMulOk.of_right this⟩
section
variable {ρ:Rho}
theorem oh {q r b s o:IE}:(E0 q r b s o).safe ρ:=⟨fun zw=>trivial,fun zw=>trivial⟩
theorem yV {q r b s:IE}:(Kx q r b s).safe ρ:=⟨fun zw=>trivial,fun zw=>oh⟩
theorem Dp {q s b:IE}:(MH q s b).safe ρ:=⟨fun zw=>⟨fun zw=>⟨fun zw=>trivial,fun zw=>trivial⟩,fun zw=>yV⟩,fun zw=>yV⟩
theorem sZ {x:IE} {k:IE->VC} (hx:0<=x.den ρ) (hk:∀b,(k b).safe ρ):(GM x k).safe ρ:=⟨fun zw=>hk _,fun h=>⟨(MA hx h _).1,(MA hx h _).2,hk _⟩⟩
theorem Gl {q:IE} {k:IE->VC} (hq:q.den ρ < 2 ^ 100) (hk:∀b,(k b).safe ρ):(L1 q k).safe ρ:=by
 have hm:0<=xV.den ρ:=by show 0<=(if ρ.v 11 < 0 then -ρ.v 11 else ρ.v 11); split <;> (first | lia | omega)
 have hb:(2:Int) ^ 100<=2 ^ 200:=by decide
 refine ⟨fun h=>absurd h (Int.not_lt.mpr hm),fun zw=>⟨fun zw=>hk _,fun zw=>⟨fun zw=>hk _,fun h=>?_⟩⟩⟩
 have h:0 < q.den ρ:=Int.not_le.mp h
 refine ⟨fun zw=>⟨h,Int.lt_of_lt_of_le hq hb,sZ (Int.ediv_nonneg (Int.mul_nonneg hm (show (0:Int)<=297 by decide)) (Int.le_of_lt h)) hk⟩,fun zw=>⟨fun h2=>⟨?_,?_,sZ (Int.ediv_nonneg hm (Int.ediv_nonneg (Int.le_of_lt h) (show (0:Int)<=297 by decide))) hk⟩,fun zw=>sZ hm hk⟩⟩
 ·have h2:1663497<=q.den ρ:=h2; show 0 < q.den ρ / 297; (first | lia | omega)
 ·exact Int.lt_of_le_of_lt (Int.ediv_le_self _ (Int.le_of_lt h)) (Int.lt_of_lt_of_le hq hb)
theorem yY {q1 q2 q3 q s:IE} (hq:q.den ρ < 2 ^ 100):(K6 q1 q2 q3 q s).safe ρ:=⟨fun zw=>⟨fun zw=>⟨fun zw=>Gl hq fun zw=>Dp,fun zw=>oh⟩,fun zw=>oh⟩,fun zw=>oh⟩
end
theorem oB (h0:t.s0 < 2 ^ 100) (h1:t.r0 < 2 ^ 100):BF.safe (aB t [e]):=⟨fun zw=>trivial,fun zw=>⟨fun zw=>yY h0,fun zw=>yY h1⟩⟩
noncomputable def bh (t:Tot) (e:Int) (k:Nat):Int:=BF.ev (aB t [e]) k
theorem wA (t:Tot):bh t 0 12=0/\bh t 0 13=0/\bh t 0 14=0/\bh t 0 15=1/\bh t 0 16=0/\bh t 0 17=0:=by
 unfold bh BF
 refine ⟨?_,?_,?_,?_,?_,?_⟩ <;> exact (mB (by rfl)).trans rfl
noncomputable def Ln (k:Nat):Bool:=Nat.ble 3 k && Nat.ble k 10
noncomputable def Lf (pc:List (CE×Bool)) (x y:IE):Bool:=match y.c? with
 | some b=>x.c?.any fun a=>decide (a.natAbs<=1) && decide (b=1)
 | none=>(match y.v? with
  | some k=>Ln k && (x.abs?.bind IE.v? == some 11) && (ze pc (.lt (.c 0) (.v k)) == some true)
  | none=>(y.neg?.bind IE.v?).any fun k=>Ln k && ((x.neg?.bind IE.abs?).bind IE.v? == some 11) && (ze pc (.lt (.c 0) (.v k)) == some false) && (ze pc (.eq (.v k) (.c 0)) == some false))
noncomputable def NK (pc:List (CE×Bool)) (l:List Ob1):Bool:=(aq (bz 14 l) (bz 15 l)).any fun p=>Lf pc p.1 p.2
theorem zT:BF.chk NK []=true:=by kernel_rfl
theorem sJ {k:Nat} (h:Ln k=true):3<=k/\k<=10:=⟨Nat.le_of_ble_eq_true (ag h),Nat.le_of_ble_eq_true (au h)⟩
theorem B6 {m b:Int} (h : -b < m/\m < b) : -b < (if m < 0 then -m else m)/\(if m < 0 then -m else m) < b:=by split <;> omega
theorem ym (hs:∀k,3<=k->k<=10->-(2 ^ 90) < (aB t [e]).v k/\(aB t [e]).v k < 2 ^ 90) (he : -(2 ^ 59) < e/\e < 2 ^ 59):1<=bh t e 15/\bh t e 15 < 2 ^ 100/\(bh t e 14).natAbs < 2 ^ 60:=by
 simp only [Int.reducePow,Nat.reducePow] at hs he ⊢
 have s3:t.s0 < _:=(hs 3 (by decide) (by decide)).2
 have s7:t.r0 < _:=(hs 7 (by decide) (by decide)).2
 have sf:BF.safe (aB t [e]):=oB (by omega) (by omega)
 apply bc;intro ng
 obtain ⟨l,pc,h1,h2,h3⟩:=VC.chk_ok zT (fun q m=>nomatch m) sf
 have ge:∀{k:Nat} {a:IE},bz k l=some a->bh t e k=a.den (aB t [e]):=fun {k a} z=>(h3 k).trans (by exact aa z rfl)
 have lk:∀{c:CE} {b:Bool},(ze pc c == some b)=true->(c.den (aB t [e])↔b=true):=fun e=>h2 _ (oK (aD e))
 obtain ⟨⟨x,y⟩,ep,h1⟩:=cw h1
 apply ng;clear ng
 refine aa (ge (ah ep).1) (aa (ge (ah ep).2) ?_)
 have h1:Lf pc x y=true:=h1
 clear ep ge h2 h3 sf s3 s7
 have a11:=B6 he
 unfold Lf at h1
 induction q:y.c? with
 | some b =>
  rw [q] at h1
  apply bc;intro ng
  obtain ⟨a,ea,h1⟩:=cw h1
  apply ng;clear ng
  refine aa (bP q) (aa (bP ea) ?_)
  have h3:=of_decide_eq_true (ag h1)
  have h4:=of_decide_eq_true (au h1)
  show 1<=b/\b < _/\a.natAbs < _
  omega
 | none =>
  rw [q] at h1
  induction q2:y.v? with
  | some k =>
   rw [q2] at h1
   apply bc;intro ng
   obtain ⟨i1,i2⟩:=sJ (ag (ag h1))
   have b:=hs k i1 i2
   obtain ⟨z,ez,ev⟩:=az (aD (au (ag h1)))
   apply ng;clear ng
   refine aa (dT q2) (aa (pq ez) (aa (dT ev) ?_))
   have g:0 < (aB t [e]).v k:=(lk (au h1)).mpr rfl
   show 1<=(aB t [e]).v k/\(aB t [e]).v k < _/\Int.natAbs (if e < 0 then -e else e) < _
   omega
  | none =>
   rw [q2] at h1
   apply bc;intro ng
   obtain ⟨k,ek,h1⟩:=cw h1
   obtain ⟨y',ey,ek⟩:=az ek
   obtain ⟨i1,i2⟩:=sJ (ag (ag (ag h1)))
   have b:=hs k i1 i2
   obtain ⟨z,ez,ev⟩:=az (aD (au (ag (ag h1))))
   obtain ⟨z',ez',ez⟩:=az ez
   apply ng;clear ng
   refine aa (oI ey) (aa (dT ek) (aa (oI ez') (aa (pq ez) (aa (dT ev) ?_))))
   have g:¬0 < (aB t [e]).v k:=fun z=>bH ((lk (au (ag h1))).mp z)
   have g':¬(aB t [e]).v k=0:=fun z=>bH ((lk (au h1)).mp z)
   show 1<=-((aB t [e]).v k)/\-((aB t [e]).v k) < _/\Int.natAbs (-(if e < 0 then -e else e)) < _
   omega
end
section
set_option backward.match.sparseCases false
noncomputable def ni (o:Obj):Option (List Value):=if o.cls == .type "tuple" then (match o.data with | .seq vs _=>some vs.toList | _=>none) else none
noncomputable def wo (P:Params) (v:AV):Option (List AV):=((v.g?.bind eT).bind fun a=>(K P).lookup a).bind fun o=>(ni o).map fun vs=>vs.map jq
noncomputable def Gg (P:Params) (v:AV) (s:St) (k:Nat->St->Tr):Tr:=match v.l? with
 | some i=>k i s
 | none=>aT (wo P v) fun vs=>k s.ob.length { s with ob:=s.ob++[.fz (.tup vs)] }
noncomputable def m9 (s:St) (v:AV):Option Nat:=((v.l?.bind s.at).bind AO.il?).bind fun p=>match p.2 with | []=>some p.1 | _=>none
noncomputable def jN (s:St) (v:AV):Option Nat:=(v.l?.bind s.at).bind AO.rf?
noncomputable def lB (s:St) (v:AV):Option (List (Int×AV)):=(v.l?.bind s.at).bind AO.dc?
noncomputable def cN (x y:Nat):Nat:=2 * x + y
noncomputable def uH (a b:AV) (s:St) (k:AV->St->Tr):Tr :=
 cX (aq a.s? b.s?) (fun p=>bO (decide (p.1.length + p.2.length<=1000)) (k (.str (p.1++p.2)) s)) <|
 cX (aq (m9 s a) (m9 s b)) (fun p=>.req (.icat (cN p.1 p.2) p.1 p.2) (mk (.il (cN p.1 p.2) []) s k)) <|
 cX (aq (jN s a) (jN s b)) (fun p=>.req (.icat (cN p.1 p.2) p.1 p.2) (mk (.rf (cN p.1 p.2)) s k)) <|
 cX (aq (jN s a) (((lstAt s b).bind be).bind fun v=>v.g?.bind eT)) (fun p=>.req (.iref (cN p.1 999) p.1 p.2) (mk (.rf (cN p.1 999)) s k)) <|
 r5 .Add a b s k
noncomputable def uz (op:Operator) (a b:AV) (s:St) (k:AV->St->Tr):Tr:=match op with
 | .Add=>uH a b s k
 | .Pow=>aT (aq a.c? b.c?) fun p=>bO (decide (0<=p.2) && decide (p.2<=1000) && decide (p.1.natAbs < 2 ^ 60)) (k (.int (.c (p.1 ^ p.2.toNat))) s)
 | .Mod=>cX (aq a.c? b.c?) (fun p=>bO (decide (0 < p.2)) (k (.int (.c (p.1 % p.2))) s)) (r5 .Mod a b s k)
 | op=>r5 op a b s k
noncomputable def iH (f:Nat->Option AO):Nat->List (AV×AV)->Option (List (IE×IE))
 | 0,_=>none
 | _ + 1,[]=>some []
 | n + 1,p::r=>(match aq p.1.i? p.2.i? with
  | some q=>(iH f n r).map (q :: ·)
  | none=>(aq p.1.l? p.2.l?).bind fun q=>if q.1=q.2 then iH f n r else
    (aq ((f q.1).bind AO.tup?) ((f q.2).bind AO.tup?)).bind fun t=>if t.1.length=t.2.length then aq (iH f n (t.1.zip t.2)) (iH f n r) |>.map fun z=>z.1++z.2 else none)
noncomputable def AY:List (IE×IE)->Tr->Tr
 | [],t=>t
 | p::r,t=>.req (.eq p.1 p.2) (AY r t)
noncomputable def yC (a b:AV) (s:St) (k:Bool->St->Tr) (t:Tr):Tr :=
 cX (aq (m9 s a) (m9 s b)) (fun p=>.req (.ieq p.1 p.2) (k true s)) <|
 cX (aq (jN s a) ((lstAt s b).bind fun vs=>match vs with | []=>some () | _=>none)) (fun p=>s.ask (.emp p.1) k) <|
 cX ((aq (tupAt s a) (tupAt s b)).bind fun t=>if t.1.length=t.2.length then iH s.at 60 (t.1.zip t.2) else none) (fun l=>AY l (k true s)) t
noncomputable def fy (ps:List (Int×AV)) (n:Int):Bool:=ps.any fun p=>decide (p.1=n)
noncomputable def rP (op:CmpOp) (a b:AV) (s:St) (k:Bool->St->Tr):Tr:=match op with
 | .Eq=>yC a b s k (gG .Eq a b s k)
 | .NotEq=>yC a b s (fun c=>k (!c)) (gG .NotEq a b s k)
 | .In=>aT (aq a.c? (lB s b)) fun p=>k (fy p.2 p.1) s
 | .NotIn=>aT (aq a.c? (lB s b)) fun p=>k (!fy p.2 p.1) s
 | op=>gG op a b s k
noncomputable def jC (ps:List (Int×AV)) (n:Int):Option AV:=(ps.find? fun p=>decide (p.1=n)).map (·.2)
noncomputable def m8 (a i:AV) (s:St) (k:AV->St->Tr):Tr :=
 cX (aq a.s? i.c?) (fun p=>aT ((seqIndex? p.2 p.1.length).bind (p.1.cps[·]?)) fun c=>bO (decide (p.2.natAbs < 2 ^ 60)) (k (.str ⟨#[c]⟩) s)) <|
 cX (aq (lB s a) i.c?) (fun p=>aT (jC p.1 p.2) fun v=>k v s) <|
 cX (aq (m9 s a) i.c?) (fun p=>bO (decide (p.2 = -1)) (.req (.last p.1 (.v (p.1 + 500))) (k (.int (.v (p.1 + 500))) s))) <|
 kS a i s k
noncomputable def oC (ps:List (Int×AV)) (n:Int) (v:AV):List (Int×AV):=if fy ps n then ps.map (fun p=>if p.1=n then (p.1,v) else p) else ps++[(n,v)]
noncomputable def gK (a i v:AV) (s:St) (k:St->Tr):Tr :=
 cX (a.l?.bind fun j=>((s.ob[j]?.bind AO.dc?)).bind fun ps=>i.c?.map fun n=>(j,ps,n)) (fun q=>bO (decide (q.2.1.length < 100)) (k { s with ob:=s.ob.set q.1 (.dc (oC q.2.1 q.2.2 v)) })) (gB a i v s k)
noncomputable def NG (lo hi:Option IE):Nat:=match lo,hi with | none,none=>0 | some _,none=>1 | none,some _=>2 | some _,some _=>3
noncomputable def GG (a:Nat) (lo hi:Option IE):Nat:=10 * a + NG lo hi
noncomputable def mZ (a:AV) (lo hi:Option IE) (s:St) (k:AV->St->Tr):Tr :=
 cX (m9 s a) (fun b=>.req (.isl (GG b lo hi) b lo hi) (mk (.il (GG b lo hi) []) s k)) <|
 cX (jN s a) (fun b=>.req (.isl (GG b lo hi) b lo hi) (mk (.rf (GG b lo hi)) s k)) <|
 cX (lstAt s a) (fun vs=>aT (aq (lo.map IE.c?) (hi.map IE.c?)) fun zw=>.fail) <|
 aT (tupAt s a) fun vs=>aT (aq (match lo with | some l=>l.c? | none=>some 0) (hi.bind IE.c?)) fun p =>
  bO (decide (0<=p.1) && decide (p.1<=p.2) && decide (p.2<=vs.length) && decide (p.2 - p.1 < vs.length) && decide (vs.length < 100)) (mk (.tup ((vs.drop p.1.toNat).take (p.2.toNat - p.1.toNat))) s k)
noncomputable def f8 (f:AV) (v:Value):Bool:=match f.g? with | some u=>u == v | none=>false
noncomputable def yU (P:Params) (a:AV) (s:St) (k:AV->St->Tr):Tr:=Gg P a s fun i s =>
 cX (jN s (.loc i)) (fun b=>.req (.ilen b 0) (mk (.rf b) s k)) <|
 cX (lstAt s (.loc i)) (fun vs=>bO (decide (vs.length < 100)) (mk (.lst vs) s k)) <|
 aT (tupAt s (.loc i)) fun vs=>bO (decide (vs.length < 100)) (mk (.lst vs) s k)
noncomputable def An (P:Params) (a:AV) (s:St) (k:AV->St->Tr) (t:Tr):Tr :=
 cX (tupAt s a) (fun zw=>k a s) <| cX (wo P a) (fun zw=>k a s) t
noncomputable def A5 (a:AV) (t:Value) (s:St):Bool:=(a.s?.isSome && t == .type "str") || ((tupAt s a).isSome && t == .type "tuple")
noncomputable def CC (b:Nat):IE:=.fn 900 (.c b) (.c 0) (.c 0)
noncomputable def nG (P:Params) (hk:Hk) (r:Rc) (f:AV) (args:List AV) (s:St) (k:AV->St->Tr):Tr :=
 fC (f8 f (.type "list")) (aT (be args) fun a=>yU P a s k) <|
 fC (f8 f (.type "tuple")) (aT (be args) fun a=>An P a s k (jG P hk r f args s k)) <|
 fC (f8 f (.builtin "len")) (aT (be args) fun a=>cX (jN s a) (fun b=>.req (.ln b (CC b)) (k (.int (CC b)) s)) <| Gg P a s fun i s=>jG P hk r f [.loc i] s k) <|
 fC (f8 f (.type "int")) (aT ((be args).bind AV.b?) fun b=>k (.int (.c (if b then 1 else 0))) s) <|
 fC (f8 f (.type "dict")) (aT ((be args).bind fun a=>lB s a) fun ps=>bO (decide (ps.length < 100)) (mk (.dc ps) s k)) <|
 fC (f8 f (.builtin "isinstance")) (cX ((d9 args).bind fun p=>p.2.g?.bind fun t=>if A5 p.1 t s then some () else none) (fun zw=>k (.bool true) s) (jG P hk r f args s k)) <|
 jG P hk r f args s k
noncomputable def sN (r:Rc) (sc:Scope) (e:Option Expr) (s:St) (k:Option IE->St->Tr):Tr:=match e with
 | none=>k none s
 | some e=>r.E sc e s fun v s=>aT v.i? fun i=>k (some i) s
noncomputable def ka : Expr->Option (Option Expr×Option Expr) | .Slice lo hi none _=>some (lo,hi) | _=>none
noncomputable def sR (P:Params) (r:Rc) (sc:Scope) (e:Expr) (s:St) (k:AV->St->Tr):Tr:=match e with
 | .BinOp a op b _=>r.E sc a s fun x s=>r.E sc b s fun y s=>uz op x y s k
 | .Compare a ops cs p=>(match aq (be ops) (be cs) with
  | some q=>if behindInMarks q.1 q.2 then .fail else r.E sc a s fun x s=>r.E sc q.2 s fun y s=>rP q.1 x y s fun c s=>k (.bool c) s
  | none=>oF P r sc (.Compare a ops cs p) s k)
 | .Subscript o i _=>(match ka i with
  | some q=>r.E sc o s fun ov s=>sN r sc q.1 s fun lo s=>sN r sc q.2 s fun hi s=>mZ ov lo hi s k
  | none=>if cv i then .fail else r.E sc o s fun ov s=>r.E sc i s fun iv s=>m8 ov iv s k)
 | .Dict ks vs _=>bO (ks.isEmpty && vs.isEmpty) (mk (.dc []) s k)
 | e=>oF P r sc e s k
noncomputable def te (r:Rc) (sc:Scope) (e:Expr) (s:St) (k:Bool->St->Tr):Tr:=match e with
 | .Compare a ops cs p=>(match aq (be ops) (be cs) with
  | some q=>if behindInMarks q.1 q.2 then .fail else r.E sc a s fun x s=>r.E sc q.2 s fun y s=>rP q.1 x y s k
  | none=>stepT r sc (.Compare a ops cs p) s k)
 | e=>stepT r sc e s k
set_option backward.match.sparseCases true in
noncomputable def bt (sc:Scope) (ts:List Expr):List Str :=
 let line:=(ts.head?.map (·.pos.line)).getD 0
 ts.filterMap fun | .Name id pos=>if sc.names.lookup id == some .local && pos.line == line then some id else none | _=>none
noncomputable def i4 (r:Rc) (sc:Scope) (t:Expr) (body:List Stmt) (k:Fl->St->Tr):Nat->St->Tr
 | 0,_=>.fail
 | n + 1,s=>r.T sc t s fun c s=>if c then qm r sc body s fun f s=>(match f with | .nx | .ct=>i4 r sc t body k n s | .bk=>k .nx s | .rt v=>k (.rt v) s) else k .nx s
noncomputable def lg (P:Params) (r:Rc) (sc:Scope) (elts es:List Expr) (e:Expr) (s:St) (k:St->Tr):Tr :=
 bO (elts.all cS && (elts.length == 2 || elts.length == 3) && es.length == elts.length && !(es.any aK)) <|
  if (bt sc elts).length=elts.length then
   bO ((bt sc elts).eraseDups.length == (bt sc elts).length && !(es.all (foldedForSure 8)) && !(es.all (constantsAlone 8))) <|
    r.E sc e s fun v s=>aT (tupAt s v) fun vs=>bO (decide (vs.length=elts.length)) (xStoreN sc (bt sc elts).reverse vs.reverse s k)
  else r.E sc e s fun v s=>aT (tupAt s v) fun vs=>bO (decide (vs.length=elts.length)) (dB P r sc elts vs s k)
where xStoreN (sc:Scope):List Str->List AV->St->(St->Tr)->Tr
 | [],[],s,k=>k s
 | x::xs,v::vs,s,k=>bZ sc x v s fun s=>xStoreN sc xs vs s k
 | _,_,_,_=>.fail
noncomputable def Fw (P:Params) (r:Rc) (sc:Scope) (t:Option Expr) (ts:List Expr) (e:Expr) (p:Pos) (s:St) (k:Fl->St->Tr):Tr:=match t with
 | some (.Tuple elts _ _)=>(match tup? e with
  | some es=>if iG e then lg P r sc elts es e s (fun s=>k .nx s) else i9 P r sc (.Assign ts e p) s k
  | none=>i9 P r sc (.Assign ts e p) s k)
 | some (.Subscript o i _)=>if dO e then .fail else r.E sc e s fun v s=>r.E sc o s fun ov s=>r.E sc i s fun iv s=>gK ov iv v s fun s=>k .nx s
 | _=>i9 P r sc (.Assign ts e p) s k
noncomputable def rx (P:Params) (r:Rc) (sc:Scope) (b:Stmt) (s:St) (k:Fl->St->Tr):Tr:=match b with
 | .Assign ts e p=>Fw P r sc (be ts) ts e p s k
 | .While t body els _=>bO els.isEmpty (i4 r sc t body k 40 s)
 | .For tg it body els _=>aT (iX tg) fun x=>bO (els.isEmpty && !cp it) <| r.E sc it s fun v s=>Gg P v s fun j s =>
   cX (lstAt s (.loc j)) (fun zw=>lO r sc x body s.ob.length k 40 { s with ob:=s.ob++[.lit j 0] }) <|
   aT (tupAt s (.loc j)) fun zw=>lO r sc x body s.ob.length k 40 { s with ob:=s.ob++[.tit j 0] }
 | b=>i9 P r sc b s k
noncomputable def D9 (P:Params) (hk:Hk) (r:Rc):Rc:=⟨sR P r,te r,rx P r,nG P hk r⟩
noncomputable def fJ (P:Params) (hk:Hk):Nat->Rc
 | 0=>nil
 | n + 1=>D9 P hk (fJ P hk n)
noncomputable def cD (P:Params) (hk:Hk) (n:Nat) (sc:Scope) (bs:List Stmt) (s:St):Tr:=qm (fJ P hk n) sc bs s fun f s=>.leaf f { s with pc:=[] }
noncomputable def bB (P:Params) (hk:Hk) (n:Nat) (sc:Scope) (e:Expr) (s:St):Tr:=(fJ P hk n).E sc e s fun v s=>.leaf (.rt v) { s with pc:=[] }
noncomputable def kO (P:Params) (hk:Hk) (n:Nat) (sc:Scope) (e:Expr) (s:St):Tr:=(fJ P hk n).T sc e s fun c s=>.leaf (.rt (.bool c)) { s with pc:=[] }
end
section
open PySem PySem.W PyProof.Rows PySem.Calls Builtin Builtin.ObjectAttr
set_option tactic.hygienic true
theorem F9 {e:Expr} {q:Option Expr×Option Expr} (h:ka e=some q):∃p,e = .Slice q.1 q.2 none p:=by
 cases e <;> try (exact ap h)
 rename_i lo hi st p
 cases st with
 | none=>cases h; exact ⟨p,rfl⟩
 | some _=>cases h
set_option tactic.hygienic false
section
variable {ρ:Rho} {O:Opq} {h:Heap} {s:St} {as:List Addr} (T:Fm ρ O h s as) {v:AV} {V:Value}
include T
theorem eS {b:Nat} (e:m9 s v=some b) (d:Dn ρ as v V):∃x Vs,V = .ref x/\IntsAre Vs (ρ.l b)/\h.IsList x Vs.toArray:=by
 apply bc;intro ng
 obtain ⟨p,e1,e2⟩:=az e
 obtain ⟨o,e3,e4⟩:=az e1
 obtain ⟨x,rfl,z⟩:=mh T e3 d
 rw [ph e4] at z
 obtain ⟨Vs,z1,z2⟩:=z
 obtain ⟨b',es⟩:=p
 apply ng;clear ng
 induction es using List.casesOn with
 | cons=>exact ap e2
 | nil =>
  cases e2
  rw [List.map_nil,List.append_nil] at z1
  exact ⟨x,Vs,rfl,z1,z2.pl⟩
theorem dP {b:Nat} (e:jN s v=some b) (d:Dn ρ as v V):∃x,V = .ref x/\h.IsList x ((ρ.l b).map ak).toArray:=by
 apply bc;intro ng
 obtain ⟨o,e3,e4⟩:=az e
 obtain ⟨x,rfl,z⟩:=mh T e3 d
 apply ng;clear ng
 rw [mq e4] at z
 exact ⟨x,rfl,At.pl z⟩
theorem kx {ps:List (Int×AV)} (e:lB s v=some ps) (d:Dn ρ as v V):∃x kvs,V = .ref x/\All2 (Kv ρ as) ps kvs/\fu h.get? x kvs:=by
 apply bc;intro ng
 obtain ⟨o,e3,e4⟩:=az e
 obtain ⟨x,rfl,z⟩:=mh T e3 d
 rw [sG e4] at z
 obtain ⟨Vs,z1,z2⟩:=z
 apply ng;clear ng
 exact ⟨x,Vs,rfl,z1,z2⟩
end
theorem fu.of {h:Heap} {x:Addr} {kvs:List (Int×Value)} (z:fu h.get? x kvs) (w:World):h.DictOf (intKind pr w) x kvs:=by
 apply bc;intro ng
 obtain ⟨-,o,e,q⟩:=z
 obtain ⟨es,ep,r⟩:=q w
 apply ng;clear ng
 exact ⟨o,es,ep,e,r⟩
theorem xR {w w':World} {es:List DictEntry} {kvs:List (Int×Value)} (x:Pairs (intKind pr w) es kvs):Pairs (intKind pr w') es kvs:=by
 induction x with
 | nil=>exact .nil
 | cons h1 h2 _ ih=>exact .cons h1 h2 ih
theorem fu.mk {h:Heap} {x:Addr} {kvs:List (Int×Value)} {w:World} (n:(x == sysModules)=false) (z:h.DictOf (intKind pr w) x kvs):fu h.get? x kvs:=by
 obtain ⟨o,es,ep,e,r⟩:=z
 exact ⟨n,o,e,fun w'=>⟨es,ep,r.1,r.2.1,r.2.2.1,xR r.2.2.2.1,r.2.2.2.2⟩⟩
theorem Kv.find {ρ:Rho} {as:List Addr} {ps:List (Int×AV)} {kvs:List (Int×Value)} (x:All2 (Kv ρ as) ps kvs) (n:Int):match jC ps n with
  | some v=>∃V,valueAt kvs n=some V/\Dn ρ as v V
  | none=>valueAt kvs n=none:=by
 unfold jC valueAt
 induction x with
 | nil=>rfl
 | @cons p q l m h _ ih =>
  refine aa (List.find?_cons) (aa (List.find?_cons) (aa (Eq.symm h.1) ?_))
  by_cases c:p.1=n
  ·refine aa (decide_eq_true c) ?_; exact ⟨q.2,rfl,h.2⟩
  ·refine aa (decide_eq_false c) ?_; exact ih
theorem qg {ps:List (Int×AV)} {n:Int}:fy ps n=(jC ps n).isSome:=by
 unfold fy jC
 refine aa Option.isSome_map ?_
 induction ps with
 | nil=>rfl
 | cons p r ih =>
  refine aa List.any_cons (aa (List.find?_cons) (aa ih ?_))
  cases decide (p.1=n) <;> rfl
theorem Kv.has {ρ:Rho} {as:List Addr} {ps:List (Int×AV)} {kvs:List (Int×Value)} (x:All2 (Kv ρ as) ps kvs) (n:Int):(valueAt kvs n).isSome=fy ps n:=by
 have z:=Kv.find x n
 refine aa qg ?_
 induction e:jC ps n with
 | none=>rw [e] at z; refine aa z ?_; rfl
 | some v=>rw [e] at z; obtain ⟨V,z,-⟩:=z; refine aa z ?_; rfl
theorem Kv.put {ρ:Rho} {as:List Addr} {ps:List (Int×AV)} {kvs:List (Int×Value)} (x:All2 (Kv ρ as) ps kvs) {n:Int} {v:AV} {V:Value} (d:Dn ρ as v V):All2 (Kv ρ as) (oC ps n v) (stored kvs n V):=by
 have e:(kvs.any fun kv=>decide (kv.1=n))=fy ps n:=by
  unfold fy
  clear d
  induction x with
  | nil=>rfl
  | cons h _ ih=>exact aa List.any_cons (aa List.any_cons (aa ih (aa h.1 rfl)))
 unfold oC stored
 refine aa e ?_
 induction fy ps n with
 | true =>
  refine aa (if_pos rfl) (aa (if_pos rfl) ?_)
  refine x.map' fun p q h=>?_
  refine aa h.1 ?_
  by_cases c:q.1=n
  ·refine aa (if_pos c) (aa (if_pos c) ?_); exact ⟨rfl,d⟩
  ·refine aa (if_neg c) (aa (if_neg c) ?_); exact h
 | false =>
  refine aa (if_neg Bool.false_ne_true) (aa (if_neg Bool.false_ne_true) ?_)
  exact x.app (.cons ⟨rfl,d⟩ .nil)
noncomputable def slV {α:Type} (l:List α) (lo hi:Option Int):List α:=((match hi with | some y=>l.take y.toNat | none=>l)).drop ((lo.getD 0).toNat)
theorem lC {Vs:List Value} {lo hi:Option Int} (h0:GO lo) (h1:GO hi):slicePick Vs.toArray lo hi none=(slV Vs lo hi).toArray:=by
 rw [kms_pick_eq]
 congr 1
 unfold kms_pick slV
 induction lo with
 | none =>
  induction hi with
  | none=>simp [kms_lo,kms_hi]
  | some y =>
   have h1:0<=y:=h1
   simp only [kms_lo,kms_hi,if_neg (show ¬y < 0 by (first | lia | omega)),Option.getD_none,List.drop_zero,Nat.sub_zero,Int.toNat_zero]
   by_cases hy:y.toNat<=Vs.length
   ·exact aa (Nat.min_eq_left hy) rfl
   ·exact aa (Nat.min_eq_right (by (first | lia | omega))) (aa (List.take_of_length_le (by simp)) (aa (List.take_of_length_le (l:=Vs) (by (first | lia | omega))) rfl))
 | some x =>
  have h0:0<=x:=h0
  induction hi with
  | none =>
   simp only [kms_lo,kms_hi,if_neg (show ¬x < 0 by (first | lia | omega)),Option.getD_some]
   by_cases hx:x.toNat<=Vs.length
   ·exact aa (Nat.min_eq_left hx) (aa (List.take_of_length_le (by simp)) rfl)
   ·refine aa (Nat.min_eq_right (by (first | lia | omega))) (aa (List.drop_of_length_le (by simp)) (aa (List.drop_of_length_le (l:=Vs) (by (first | lia | omega))) ?_)); simp
  | some y =>
   have h1:0<=y:=h1
   simp only [kms_lo,kms_hi,if_neg (show ¬x < 0 by (first | lia | omega)),if_neg (show ¬y < 0 by (first | lia | omega)),Option.getD_some,List.drop_take]
   by_cases hx:x.toNat<=Vs.length
   ·refine aa (Nat.min_eq_left hx) ?_
    by_cases hy:y.toNat<=Vs.length
    ·exact aa (Nat.min_eq_left hy) rfl
    ·exact aa (Nat.min_eq_right (by (first | lia | omega))) (aa (List.take_of_length_le (by simp)) (aa (List.take_of_length_le (by simp; (first | lia | omega))) rfl))
   ·refine aa (Nat.min_eq_right (show Vs.length<=x.toNat by (first | lia | omega))) (aa (List.drop_of_length_le (by simp)) (aa (List.drop_of_length_le (l:=Vs) (by (first | lia | omega))) ?_)); simp
theorem IntsAre.slV {Vs:List Value} {ns:List Int} (x:IntsAre Vs ns) (lo hi:Option Int):IntsAre (Mine.slV Vs lo hi) (Dw ns lo hi):=by
 unfold Mine.slV Dw
 induction hi with
 | none=>exact x.drop _
 | some y=>exact (x.take _).drop _
theorem vI {ns:List Int} {f:Int->Value} (lo hi:Option Int):slV (ns.map f) lo hi=(Dw ns lo hi).map f:=by
 unfold slV Dw
 induction hi with
 | none=>simp [List.map_drop]
 | some y=>simp [List.map_drop,List.map_take]
end
section
open PySem PySem.W PyProof.Rows PySem.Calls Builtin Builtin.ObjectAttr PySem.SeqAt
section
variable {w:World} {ρ:Rho} {O:Opq} {G:Gr} {env:Env} {h h':Heap} {s s':St} {as:List Addr} {A:Around} {E:Value->Shared->Prop} {gs:Array GenState} {dr:Drawn} {n:Nat} {os:OsState} {post:Fl->St->Prop}
theorem Co.hat {pc:List (CE×Bool)} (S:Co w ρ O G h s.ob pc as):Fm ρ O h s as:=fun i o e=>S.at e
theorem SR.newI (S:SR w ρ O G env h s as) {Vs:List Value} {c:Nat} (hi:IntsAre Vs (ρ.l c)):SR w ρ O G env (h.push { cls:=.type "list",data:=.seq Vs.toArray }) { s with ob:=s.ob++[.il c []] } (as++[h.objs.size]) :=
 S.push _ ⟨Vs,by rw [List.map_nil,List.append_nil]; exact hi,_,Heap.get?_push_size _ rfl,_,rfl⟩
theorem SR.newR (S:SR w ρ O G env h s as) {Vs:List Value} {c:Nat} (hi:Vs=(ρ.l c).map ak):SR w ρ O G env (h.push { cls:=.type "list",data:=.seq Vs.toArray }) { s with ob:=s.ob++[.rf c] } (as++[h.objs.size]) :=
 S.push _ ⟨_,Heap.get?_push_size _ rfl,_,by exact aa hi rfl⟩
theorem SR.lastD (S:SR w ρ O G env h s as) {x:Addr}:Dn ρ (as++[x]) (.loc s.ob.length) (.ref x):=⟨x,by refine aa (Eq.symm S.sz) ?_; exact aY,rfl⟩
set_option tactic.hygienic true
theorem ue {a b:AV} {k:AV->St->Tr} {V U:Value} {Q:Value->Shared->Prop} (y:(uH a b s k).ok ρ post) (S:SR w ρ O G env h s as) (d:Dn ρ as a V) (d':Dn ρ as b U)
  (q:∀v V s' h' as' n',(k v s').ok ρ post->SR w ρ O G env h' s' as'->aM as as'->Dn ρ as' v V->Q V ⟨h',gs,dr,n',os⟩):wpAny (model pr w) A (binaryOp .Add V U) Q E ⟨h,gs,dr,n,os⟩:=by
 unfold uH at y
 rcases aV y with ⟨p,e,y⟩ | y
 ·obtain ⟨e1,e2⟩:=ah e
  rw [nu e1] at d; rw [nu e2] at d'
  apply bc;intro ng
  obtain ⟨t,rfl⟩:=d; obtain ⟨u,rfl⟩:=d'
  obtain ⟨c,y⟩:=aj y
  apply ng;clear ng
  have c:=of_decide_eq_true c
  exact add_str (s:=⟨h,gs,dr,n,os⟩) (fun t' tk=>q _ _ _ _ _ _ y S .refl ⟨_,rfl⟩) (by refine aa sizeLine_eq ?_; (first | lia | omega))
 rcases aV y with ⟨p,e,y⟩ | y
 ·obtain ⟨e1,e2⟩:=ah e
  apply bc;intro ng
  obtain ⟨x,Vs,rfl,i1,l1⟩:=eS S.hat e1 d
  obtain ⟨z,Us,rfl,i2,l2⟩:=eS S.hat e2 d'
  obtain ⟨⟨c1,c2,c3⟩,y⟩:=y
  apply ng;clear ng
  refine wR (n:=n) l1 l2 (by have:=i1.length; have:=i2.length; (first | lia | omega)) ?_
  exact q _ _ _ _ _ _ y (S.newI (by refine aa c1 ?_; exact i1.append i2)) ⟨_,rfl⟩ S.lastD
 rcases aV y with ⟨p,e,y⟩ | y
 ·obtain ⟨e1,e2⟩:=ah e
  apply bc;intro ng
  obtain ⟨x,rfl,l1⟩:=dP S.hat e1 d
  obtain ⟨z,rfl,l2⟩:=dP S.hat e2 d'
  obtain ⟨⟨c1,c2,c3⟩,y⟩:=y
  apply ng;clear ng
  refine wR (n:=n) l1 l2 (by simp; (first | lia | omega)) ?_
  exact q _ _ _ _ _ _ y (S.newR (by exact aa c1 (aa List.map_append rfl))) ⟨_,rfl⟩ S.lastD
 rcases aV y with ⟨p,e,y⟩ | y
 ·obtain ⟨e1,e2⟩:=ah e
  apply bc;intro ng
  obtain ⟨v,e3,e4⟩:=az e2
  obtain ⟨vs,e5,e6⟩:=az e3
  obtain ⟨u,e7,e8⟩:=az e4
  obtain ⟨x,rfl,l1⟩:=dP S.hat e1 d
  obtain ⟨z,Us,rfl,a2,l2⟩:=eA S.hat e5 d'
  apply ng;clear ng
  rw [ba e6,nE e7,rK e8] at a2
  cases a2; rename_i d1 a2; cases a2
  have d1:_=_:=d1
  subst d1
  apply bc;intro ng
  obtain ⟨⟨c1,c2⟩,y⟩:=y
  apply ng;clear ng
  refine wR (n:=n) l1 l2 (by simp; (first | lia | omega)) ?_
  exact q _ _ _ _ _ _ y (S.newR (by refine aa c1 (aa List.map_append ?_); rfl)) ⟨_,rfl⟩ S.lastD
 ·exact ir y S d d' q
set_option tactic.hygienic false
theorem kY {op:Operator} {a b:AV} {k:AV->St->Tr} {V U:Value} {Q:Value->Shared->Prop} (y:(uz op a b s k).ok ρ post) (S:SR w ρ O G env h s as) (d:Dn ρ as a V) (d':Dn ρ as b U)
  (q:∀v V s' h' as' n',(k v s').ok ρ post->SR w ρ O G env h' s' as'->aM as as'->Dn ρ as' v V->Q V ⟨h',gs,dr,n',os⟩):wpAny (model pr w) A (binaryOp op V U) Q E ⟨h,gs,dr,n,os⟩:=by
 induction op using Operator.casesOn with
 | Add=>exact ue y S d d' q
 | Pow =>
  obtain ⟨p,e,y⟩:=af (o:=aq a.c? b.c?) y
  obtain ⟨e1,e2⟩:=ah e
  rw [je e1] at d; rw [je e2] at d'
  obtain ⟨t,rfl⟩:=d; obtain ⟨u,rfl⟩:=d'
  obtain ⟨c,y⟩:=aj y
  simp only [Bool.and_eq_true,decide_eq_true_eq] at c
  exact pow_int_small (s:=⟨h,gs,dr,n,os⟩) c.1.1 (show p.2<=1000000 by omega) (show p.1.natAbs < 2 ^ 64 by omega) (q _ _ _ _ _ _ y S .refl ⟨_,rfl⟩)
 | Mod =>
  rcases aV (o:=aq a.c? b.c?) y with ⟨p,e,y⟩ | y
  ·obtain ⟨e1,e2⟩:=ah e
   rw [je e1] at d; rw [je e2] at d'
   obtain ⟨t,rfl⟩:=d; obtain ⟨u,rfl⟩:=d'
   obtain ⟨c,y⟩:=aj y
   exact zj (show 0 < p.2 from of_decide_eq_true c) fun t n'=>q _ _ _ _ _ n' y S .refl ⟨t,rfl⟩
  ·exact ir y S d d' q
 | _=>exact ir y S d d' q
theorem ew (S:SR w ρ O G env h s as):∀(m:Nat) {ps:List (AV×AV)} {l:List (IE×IE)},iH s.at m ps=some l->(∀p∈l,p.1.den ρ=p.2.den ρ)->∀(A:Around),A.units + m < cLine->∀p∈ps,∀V U,Dn ρ as p.1 V->Dn ρ as p.2 U->EqAt A ⟨h,gs,dr,n,os⟩ V U true
 | 0,_,_,e,_,_,_=>by exact ap e
 | m + 1,[],_,_,_,_,_=>fun p mp=>nomatch mp
 | m + 1,p::r,l,e,hl,A,hu=>by
  unfold iH at e
  have hu':A.units + m < cLine:=by (first | lia | omega)
  induction e1:aq p.1.i? p.2.i? with
  | some q =>
   rw [e1] at e
   apply bc;intro ng
   obtain ⟨l',e2,rfl⟩:=Option.map_eq_some_iff.mp e
   obtain ⟨z1,z2⟩:=ah e1
   apply ng;clear ng
   intro p' mp V U d d'
   cases mp with
   | head =>
    rw [cP z1] at d; rw [cP z2] at d'
    apply bc;intro ng
    obtain ⟨t,rfl⟩:=d; obtain ⟨u,rfl⟩:=d'
    apply ng;clear ng
    have:=EqAt.int_int (A:=A) (s:=⟨h,gs,dr,n,os⟩) (q.1.den ρ) t (q.2.den ρ) u
    rw [hl q (.head _),beq_self_eq_true] at this
    refine aa (hl q (.head _)) ?_; exact this
   | tail _ mp=>exact ew S m e2 (fun p mp=>hl p (.tail _ mp)) A hu' p' mp V U d d'
  | none =>
   rw [e1] at e
   apply bc;intro ng
   obtain ⟨q,e2,e⟩:=az e
   obtain ⟨z1,z2⟩:=ah e2
   apply ng;clear ng
   by_cases hq:q.1=q.2
   ·rw [if_pos hq] at e
    intro p' mp V U d d'
    cases mp with
    | head =>
     rw [bN z1] at d; rw [bN z2,<- hq] at d'
     apply bc;intro ng
     obtain ⟨x,ex,rfl⟩:=d; obtain ⟨x',ex',rfl⟩:=d'
     apply ng;clear ng
     rw [ex] at ex'; cases ex'
     exact EqAt.same _
    | tail _ mp=>exact ew S m e hl A hu' p' mp V U d d'
   ·rw [if_neg hq] at e
    apply bc;intro ng
    obtain ⟨t,e3,e⟩:=az e
    obtain ⟨y1,y2⟩:=ah e3
    apply ng;clear ng
    by_cases hlen:t.1.length=t.2.length
    ·rw [if_pos hlen] at e
     apply bc;intro ng
     obtain ⟨lz,e4,rfl⟩:=Option.map_eq_some_iff.mp e
     obtain ⟨x1,x2⟩:=ah e4
     apply ng;clear ng
     intro p' mp V U d d'
     cases mp with
     | head =>
      rw [bN z1] at d; rw [bN z2] at d'
      apply bc;intro ng
      obtain ⟨x,ex,rfl⟩:=d; obtain ⟨x',ex',rfl⟩:=d'
      obtain ⟨o1,f1,f2⟩:=az y1
      obtain ⟨o2,g1,g2⟩:=az y2
      obtain ⟨a1,b1,c1⟩:=S.at f1
      obtain ⟨a2,b2,c2⟩:=S.at g1
      rw [ex] at b1; cases b1
      rw [ex'] at b2; cases b2
      rw [cY f2] at c1; rw [cY g2] at c2
      obtain ⟨Vs,v1,v2⟩:=c1
      obtain ⟨Us,u1,u2⟩:=c2
      apply ng;clear ng
      by_cases hx:x=x'
      ·subst hx; exact EqAt.same _
      ·have n1:=v1.len; have n2:=u1.len
       have z:=RcAt.tuples (A:=A) (s:=⟨h,gs,dr,n,os⟩) (e:=fun zw=>true) (items:=Vs.toArray) (items2:=Us.toArray) v2 u2 (by (first | lia | omega)) fun j h1 h2=>by
        have j1:j < Vs.length:=by simpa using h1
        have j2:j < Us.length:=by simpa using h2
        apply bc;intro ng
        obtain ⟨v,w1,w2⟩:=v1.rget (List.getElem?_eq_getElem j1)
        obtain ⟨u,w3,w4⟩:=u1.rget (List.getElem?_eq_getElem j2)
        apply ng;clear ng
        refine ew S m x1 (fun p mp=>hl p (List.mem_append_left _ mp)) A.in1 (by show A.units + 1 + m < _; (first | lia | omega)) (v,u) ?_ _ _ w2 w4
        exact List.mem_iff_getElem?.mpr ⟨j,by rw [List.getElem?_zip_eq_some]; exact ⟨w1,w3⟩⟩
       have e5:((List.range (min Vs.toArray.size Us.toArray.size)).all (fun zw=>true) && Vs.toArray.size == Us.toArray.size)=true:=by
        simp; (first | lia | omega)
       rw [e5] at z
       exact EqAt.of_refs hx z
     | tail _ mp=>exact ew S m x2 (fun p mp=>hl p (List.mem_append_right _ mp)) A hu' p' mp V U d d'
    ·rw [if_neg hlen] at e; exact ap e
end
end
section
open PySem PySem.W PyProof.Rows PySem.Calls Builtin Builtin.ObjectAttr PySem.SeqAt
noncomputable def GQ (op:CmpOp) (b:Bool):Bool:=match op with | .Eq=>b | _=>!b
theorem j8 {A:Around} {s:Shared}:∀{Vs Us:List Value} {ns:List Int},IntsAre Vs ns->IntsAre Us ns->∀j (h1:j < Vs.length) (h2:j < Us.length),EqAt A s Vs[j] Us[j] true
 | _,_,_,.nil,_,j,h1,_=>absurd h1 (Nat.not_lt_zero j)
 | _,_,_,.cons a t x,.cons _ u y,0,_,_=>by
  have z:=EqAt.int_int (A:=A) (s:=s) a t a u
  rw [beq_self_eq_true] at z; exact z
 | _,_,_,.cons _ _ x,.cons _ _ y,j + 1,h1,h2=>j8 x y j (Nat.lt_of_succ_lt_succ h1) (Nat.lt_of_succ_lt_succ h2)
section
variable {w:World} {ρ:Rho} {O:Opq} {G:Gr} {env:Env} {h h':Heap} {s s':St} {as:List Addr} {A:Around} {E:Value->Shared->Prop} {gs:Array GenState} {dr:Drawn} {n:Nat} {os:OsState} {post:Fl->St->Prop}
theorem iI {op:CmpOp} (ho:op = .Eq\/op = .NotEq) {x z:Addr} {Vs Us:List Value} {st:Shared} {Q:Value->Shared->Prop} (hu:A.units < cLine) (l1:st.heap.IsList x Vs.toArray) (l2:st.heap.IsList z Us.toArray) (e:Vs.length=Us.length)
  (he:∀j (h1:j < Vs.length) (h2:j < Us.length),EqAt A.in1 st Vs[j] Us[j] true) (q:Q (.bool (GQ op true)) st):wpAny (model pr w) A (compareOp op (.ref x) (.ref z)) Q E st:=by
 have a:∀m,((List.range m).all fun zw=>true)=true:=fun m=>by simp
 rcases ho with rfl | rfl
 ·exact PySem.EqBoolInt.of_rc (RcAt.lists (e:=fun zw=>true) l1 l2 (by simpa using e) hu fun j h1 h2=>he j h1 h2) (by rw [a]; exact q)
 ·exact PySem.EqBoolInt.of_rcne (RcNeAt.lists (e:=fun zw=>true) l1 l2 (by simpa using e) hu fun j h1 h2=>he j h1 h2) (by rw [a]; exact q)
theorem yf {op:CmpOp} (ho:op = .Eq\/op = .NotEq) {x z:Addr} {Vs Us:List Value} {st:Shared} {Q:Value->Shared->Prop} (hu:A.units < cLine) (l1:st.heap.IsList x Vs.toArray) (l2:st.heap.IsList z Us.toArray) (e:Vs.length≠Us.length)
  (q:Q (.bool (GQ op false)) st):wpAny (model pr w) A (compareOp op (.ref x) (.ref z)) Q E st:=by
 rcases ho with rfl | rfl
 ·exact PySem.EqBoolInt.of_rc (RcAt.lists_lengths l1 l2 (by simpa using e) hu) q
 ·exact PySem.EqBoolInt.of_rcne (RcNeAt.lists_lengths l1 l2 (by simpa using e) hu) q
theorem oG {op:CmpOp} (ho:op = .Eq\/op = .NotEq) {x z:Addr} {Vs Us:List Value} {st:Shared} {Q:Value->Shared->Prop} (hu:A.units < cLine) (l1:IsTup st.heap x Vs.toArray) (l2:IsTup st.heap z Us.toArray) (e:Vs.length=Us.length)
  (he:∀j (h1:j < Vs.length) (h2:j < Us.length),EqAt A.in1 st Vs[j] Us[j] true) (q:Q (.bool (GQ op true)) st):wpAny (model pr w) A (compareOp op (.ref x) (.ref z)) Q E st:=by
 have a:((List.range (min Vs.toArray.size Us.toArray.size)).all (fun zw=>true) && Vs.toArray.size == Us.toArray.size)=true:=by simp [e]
 rcases ho with rfl | rfl
 ·exact PySem.EqBoolInt.of_rc (RcAt.tuples (e:=fun zw=>true) l1 l2 hu fun j h1 h2=>he j h1 h2) (by refine aa a ?_; exact q)
 ·exact PySem.EqBoolInt.of_rcne (RcNeAt.tuples (e:=fun zw=>true) l1 l2 hu fun j h1 h2=>he j h1 h2) (by refine aa a ?_; exact q)
theorem pA {t:Tr}:∀{l:List (IE×IE)},(AY l t).ok ρ post->(∀p∈l,p.1.den ρ=p.2.den ρ)/\t.ok ρ post
 | [],y=>⟨fun zw m=>(nomatch m),y⟩
 | p::r,y=>by
  obtain ⟨y1,y2⟩:=pA (l:=r) y.2
  exact ⟨fun c m=>by cases m with | head=>exact y.1 | tail _ m=>exact y1 c m,y2⟩
theorem oT {op:CmpOp} (ho:op = .Eq\/op = .NotEq) {a b:AV} {k:Bool->St->Tr} {t:Tr} {V U:Value} {Q:Value->Shared->Prop} (hu:A.units + 70 < cLine) (y:(yC a b s k t).ok ρ post) (S:SR w ρ O G env h s as) (d:Dn ρ as a V) (d':Dn ρ as b U)
  (q:∀c s' n',(k c s').ok ρ post->SR w ρ O G env h s' as->Q (.bool (GQ op c)) ⟨h,gs,dr,n',os⟩) (z:t.ok ρ post->wpAny (model pr w) A (compareOp op V U) Q E ⟨h,gs,dr,n,os⟩):wpAny (model pr w) A (compareOp op V U) Q E ⟨h,gs,dr,n,os⟩:=by
 have hu':A.units < cLine:=Nat.lt_of_le_of_lt (Nat.le_add_right _ _) hu
 unfold yC at y
 rcases aV y with ⟨p,e,y⟩ | y
 ·obtain ⟨e1,e2⟩:=ah e
  apply bc;intro ng
  obtain ⟨x,Vs,rfl,i1,l1⟩:=eS S.hat e1 d
  obtain ⟨z,Us,rfl,i2,l2⟩:=eS S.hat e2 d'
  apply ng;clear ng
  have c:ρ.l p.1=ρ.l p.2:=y.1
  rw [<- c] at i2
  exact iI ho (st:=⟨h,gs,dr,n,os⟩) hu' l1 l2 (i1.length.trans i2.length.symm) (fun j h1 h2=>j8 i1 i2 j h1 h2) (q _ _ _ y.2 S)
 rcases aV y with ⟨p,e,y⟩ | y
 ·obtain ⟨e1,e2⟩:=ah e
  apply bc;intro ng
  obtain ⟨vs,e3,e4⟩:=az e2
  obtain ⟨x,rfl,l1⟩:=dP S.hat e1 d
  obtain ⟨z,Us,rfl,i2,l2⟩:=eA S.hat e3 d'
  apply ng;clear ng
  cases i2 with
  | cons=>exact ap e4
  | nil =>
   refine eD S y fun c s' hc y S'=>?_
   have hc:ρ.l p.1 = []↔c=true:=hc
   induction c with
   | true =>
    rw [hc.mpr rfl] at l1
    exact iI ho (st:=⟨h,gs,dr,n,os⟩) hu' l1 l2 rfl (fun j h1 zw=>absurd h1 (Nat.not_lt_zero j)) (q _ _ _ y S')
   | false =>
    refine yf ho (st:=⟨h,gs,dr,n,os⟩) hu' l1 l2 (fun e=>Bool.false_ne_true (hc.mp ?_)) (q _ _ _ y S')
    rw [List.length_map] at e
    exact List.eq_nil_of_length_eq_zero e
 rcases aV y with ⟨l,e,y⟩ | y
 ·obtain ⟨t',e1,e2⟩:=az e
  apply bc;intro ng
  obtain ⟨e3,e4⟩:=ah e1
  apply ng;clear ng
  by_cases hl:t'.1.length=t'.2.length
  ·rw [if_pos hl] at e2
   apply bc;intro ng
   obtain ⟨x,Vs,rfl,i1,l1⟩:=bD S.hat e3 d
   obtain ⟨z,Us,rfl,i2,l2⟩:=bD S.hat e4 d'
   obtain ⟨y1,y2⟩:=pA y
   apply ng;clear ng
   refine oG ho (st:=⟨h,gs,dr,n,os⟩) hu' l1 l2 (i1.len.symm.trans (hl.trans i2.len)) (fun j h1 h2=>?_) (q _ _ _ y2 S)
   apply bc;intro ng
   obtain ⟨v,w1,w2⟩:=i1.rget (List.getElem?_eq_getElem h1)
   obtain ⟨u,w3,w4⟩:=i2.rget (List.getElem?_eq_getElem h2)
   apply ng;clear ng
   refine ew S 60 e2 y1 A.in1 (by show A.units + 1 + 60 < _; (first | lia | omega)) (v,u) ?_ _ _ w2 w4
   exact List.mem_iff_getElem?.mpr ⟨j,by rw [List.getElem?_zip_eq_some]; exact ⟨w1,w3⟩⟩
  ·rw [if_neg hl] at e2; exact ap e2
 ·exact z y
theorem lM {op:CmpOp} {a b:AV} {k:Bool->St->Tr} {V U:Value} {Q:Value->Shared->Prop} (hu:A.units + 70 < cLine) (y:(rP op a b s k).ok ρ post) (S:SR w ρ O G env h s as) (d:Dn ρ as a V) (d':Dn ρ as b U)
  (q:∀c s' n',(k c s').ok ρ post->SR w ρ O G env h s' as->Q (.bool c) ⟨h,gs,dr,n',os⟩):wpAny (model pr w) A (compareOp op V U) Q E ⟨h,gs,dr,n,os⟩:=by
 have hu':A.units < cLine:=Nat.lt_of_le_of_lt (Nat.le_add_right _ _) hu
 have dc:∀{p:Int×List (Int×AV)},aq a.c? (lB s b)=some p->∃t x kvs,V = .int p.1 t/\U = .ref x/\h.DictOf (intKind pr w) x kvs/\(valueAt kvs p.1).isSome=fy p.2 p.1/\(x == sysModules)=false:=fun {p} e=>by
  apply bc;intro ng
  obtain ⟨e1,e2⟩:=ah e
  rw [je e1] at d
  obtain ⟨t,rfl⟩:=d
  obtain ⟨x,kvs,rfl,i1,l1⟩:=kx S.hat e2 d'
  apply ng;clear ng
  exact ⟨t,x,kvs,rfl,rfl,l1.of w,Kv.has i1 _,l1.1⟩
 induction op using CmpOp.casesOn with
 | Eq=>exact oT (.inl rfl) hu y S d d' q fun y=>dI hu' y S d d' q
 | NotEq=>exact oT (k:=fun c=>k (!c)) (t:=gG .NotEq a b s k) (.inr rfl) hu y S d d' (fun c s' n' y S=>q (!c) s' n' y S) fun y=>dI hu' y S d d' q
 | In =>
  apply bc;intro ng
  obtain ⟨p,e,y⟩:=af (o:=aq a.c? (lB s b)) y
  obtain ⟨t,x,kvs,rfl,rfl,l1,l2,l3⟩:=dc e
  apply ng;clear ng
  exact wpAny_in_of (s:=⟨h,gs,dr,n,os⟩) (intKind_is _ _ _ _) l3 l1.mapOf (by refine aa l2 ?_; exact q _ _ _ y S)
 | NotIn =>
  apply bc;intro ng
  obtain ⟨p,e,y⟩:=af (o:=aq a.c? (lB s b)) y
  obtain ⟨t,x,kvs,rfl,rfl,l1,l2,l3⟩:=dc e
  apply ng;clear ng
  exact wpAny_notIn_of (s:=⟨h,gs,dr,n,os⟩) (intKind_is _ _ _ _) l3 l1.mapOf (by refine aa l2 ?_; exact q _ _ _ y S)
 | _=>exact dI hu' y S d d' q
end
end
section
open PySem PySem.W PyProof.Rows PySem.Calls Builtin Builtin.ObjectAttr PySem.SeqAt
def DB (ρ:Rho) (e:Option IE) (V:Value):Prop:=match e with | none=>V = .none | some e=>∃t,V = .int (e.den ρ) t
theorem DB.part {ρ:Rho} {e:Option IE} {V:Value} (d:DB ρ e V):IsPart V (e.map (IE.den ρ)):=by
 induction e with
 | none=>subst d; exact .none
 | some e=>obtain ⟨t,rfl⟩:=d; exact .int _ _
theorem vZ {prog:Program} {w:World} {A:Around} {E:Value->Shared->Prop} {s:Shared} {V:Value} {o:Option Int} {Q:Option Int->Shared->Prop} (p:IsPart V o) (h:Q o s):wpAny (model prog w) A (Builtin.Slice.slicePartIndex V) Q E s:=by
 induction p with
 | none=>exact slicePart_none h
 | int=>exact slicePart_int h
theorem qU {prog:Program} {w:World} {A:Around} {E:Value->Shared->Prop} {s:Shared} {t sl:Addr} {items:Array Value} {vl:Value} {lo:Option Int} {a b:Nat} {u:Tok} {Q:Value->Shared->Prop} (ht:IsTup s.heap t items)
  (hs:s.heap.IsSliceOf sl vl (.int b u) .none) (hl:IsPart vl lo) (ha:lo.getD 0=(a:Int)) (hab:a<=b) (hb:b<=items.size) (hn:b - a < items.size)
  (h:Q (.ref s.heap.objs.size) { s with heap:=s.heap.push { cls:=.type "tuple",data:=.seq ((items.toList.drop a).take (b - a)).toArray } })
  (hsz:items.size<=sizeLine):wpAny (model prog w) A (getItem (.ref t) (.ref sl)) Q E s:=by
 have hz:sizeOk (.seq ((items.toList.drop a).take (b - a)).toArray):=by
  show ((items.toList.drop a).take (b - a)).toArray.size<=sizeLine
  refine aa List.size_toArray (aa List.length_take ?_)
  (first | decide | lia | omega)
 have e1:Builtin.Slice.sliceAdjust lo (some (b:Int)) 1 (items.size:Int)=((a:Int),(b:Int)):=by
  unfold Builtin.Slice.sliceAdjust
  induction lo with
  | none=>have ha:(0:Int)=a:=ha; simp; (first | decide | lia | omega)
  | some x=>have ha:x=a:=ha; simp; (first | decide | lia | omega)
 have e2:Builtin.Slice.slicePlaces (a:Int) (b:Int) 1=b - a:=by
  unfold Builtin.Slice.slicePlaces
  have h1:(1:Int) > 0:=by (first | decide | lia | omega)
  simp only [h1,if_true,Int.ediv_one]
  split <;> (first | decide | lia | omega)
 apply bc;intro ng
 obtain ⟨os,hos,hcs,hds⟩:=id hs
 apply ng;clear ng
 have hTs:s.TypeIs (.ref sl) "slice":=⟨os,hos,hcs⟩
 unfold getItem
 try with_reducible refine wpAny_holding ?_
 refine wpAny_bind (wpAny_sequenceKey ht.typeIs (by decide) ?_)
 refine wpAny_bind (wpAny_callSpecial?_slot (name:=Str.ofString "__getitem__") ht.typeIs slot_tuple_getitem
  (wpAny_call_entry slot_tuple_getitem ht.typeIs entry_tuple_getitem ?_ (args_tuple_getitem _ _)))
 show wpAny _ _ (Builtin.Tuple.tupleItemsOf (.ref t) >>= _) _ _ s
 refine wpAny_bind (tupleItemsOf_ ht ?_)
 refine wpAny_bind (wpAny_typeOf hTs ?_)
 refine aa (if_pos (by decide)) ?_
 refine wpAny_bind ?_
 unfold Builtin.Slice.sliceApplied Builtin.Slice.sliceFields
 refine wpAny_bind (wpAny_bind (wpAny_field hos hds (x:=vl) rfl (wpAny_bind (wpAny_field hos hds (x:=.int b u) rfl (wpAny_bind (wpAny_field hos hds (x:=.none) rfl (wpAny_pure ?_)))))))
 refine wpAny_bind (slicePart_none ?_)
 show wpAny _ _ (if ((1:Int) == 0)=true then _ else _) _ _ s
 refine aa (if_neg (by decide)) ?_
 refine wpAny_bind (vZ hl (wpAny_bind (slicePart_int (wpAny_bind (wpAny_pure ?_)))))
 show wpAny _ _ (match Builtin.Slice.sliceAdjust lo (some (b:Int)) 1 (items.size:Int) with | (lo,hi)=>pure (lo,(1:Int),Builtin.Slice.slicePlaces lo hi 1)) _ _ s
 refine aa e1 ?_
 show wpAny _ _ (pure ((a:Int),(1:Int),Builtin.Slice.slicePlaces (a:Int) (b:Int) 1)) _ _ s
 refine aa e2 ?_
 refine wpAny_pure ?_
 have hno:¬(((a:Int) == 0 && (1:Int) == 1 && (b - a) == items.size)=true):=by
  have:((b - a) == items.size)=false:=by rw [beq_eq_false_iff_ne]; (first | decide | lia | omega)
  refine aa this ?_; simp
 have e3:((List.range (b - a)).filterMap fun (k:Nat)=>items[((a:Int) + (k:Int) * 1).toNat]?).toArray=((items.toList.drop a).take (b - a)).toArray:=by
  have e:(fun (k:Nat)=>items[((a:Int) + (k:Int) * 1).toNat]?)=fun k=>items[a + k]?:=by
   funext k
   have:((a:Int) + (k:Int) * 1).toNat=a + k:=by (first | decide | lia | omega)
   exact aa this rfl
  refine aa e ?_
  have:=pick_run items a (b - a)
  rw [List.filterMap_map] at this
  have e2:((fun x=>items[x]?) ∘ fun x=>a + x)=fun k=>items[a + k]?:=rfl
  rw [e2] at this
  exact aa this rfl
 show wpAny _ _ (if ((a:Int) == 0 && (1:Int) == 1 && (b - a) == items.size)=true then _ else _) _ _ s
 refine aa (if_neg hno) (aa e3 ?_)
 first
  | exact wpAny_bind (m:=Builtin.Tuple.tupleExact _) (wpAny_newObj_type (wpAny_pure ⟨_,rfl,wpAny_pure h⟩) hz)
  | exact wpAny_bind (m:=Builtin.Tuple.tupleExact _) (wpAny_newObj_type (wpAny_bind (wpAny_pure (wpAny_pure ⟨_,rfl,wpAny_pure h⟩))) hz)
  | exact wpAny_bind (wpAny_bind (m:=Builtin.Tuple.tupleExact _) (wpAny_newObj_type (wpAny_pure (wpAny_pure ⟨_,rfl,wpAny_pure h⟩)) hz))
  | exact wpAny_bind (wpAny_bind (m:=Builtin.Tuple.tupleExact _) (wpAny_newObj_type (wpAny_pure ⟨_,rfl,wpAny_pure h⟩) hz))
section
variable {w:World} {ρ:Rho} {O:Opq} {G:Gr} {env:Env} {h h':Heap} {s s':St} {as:List Addr} {A:Around} {E:Value->Shared->Prop} {gs:Array GenState} {dr:Drawn} {n:Nat} {os:OsState} {post:Fl->St->Prop}
theorem SR.newT (S:SR w ρ O G env h s as) {vs:List AV} {Vs:List Value} (d:All2 (Dn ρ as) vs Vs):SR w ρ O G env (h.push { cls:=.type "tuple",data:=.seq Vs.toArray }) { s with ob:=s.ob++[.tup vs] } (as++[h.objs.size]) :=
 S.push _ ⟨Vs,d.mono fun zw zw z=>z.pre ⟨_,rfl⟩,_,Heap.get?_push_size _ rfl,rfl,_,rfl⟩
theorem pP {value slice:Expr} {a i:AV} {V U:Value} {k:AV->St->Tr} {Q:Value->Shared->Prop} (hs:cv slice=false) (y:(m8 a i s k).ok ρ post) (S:SR w ρ O G env h s as) (d:Dn ρ as a V) (d':Dn ρ as i U)
  (q:∀v V s' n',(k v s').ok ρ post->SR w ρ O G env h s' as->Dn ρ as v V->Q V ⟨h,gs,dr,n',os⟩):wpAny (model pr w) A (subscriptTail value slice V U) Q E ⟨h,gs,dr,n,os⟩:=by
 unfold m8 at y
 rcases aV y with ⟨p,e,y⟩ | y
 ·obtain ⟨e1,e2⟩:=ah e
  rw [nu e1] at d; rw [je e2] at d'
  apply bc;intro ng
  obtain ⟨t,rfl⟩:=d; obtain ⟨u,rfl⟩:=d'
  obtain ⟨c,ec,y⟩:=af y
  obtain ⟨hb,y⟩:=aj y
  apply ng;clear ng
  have hb:=of_decide_eq_true hb
  refine tail_any (s:=⟨h,gs,dr,n,os⟩) (typeIs_str _ _ _) slot_str_getitem.lookup (PyProof.Rows.getItem_str ?_ ec (q _ _ _ _ y S ⟨_,rfl⟩)) (dN hs _ _)
  simp only [Bool.or_eq_false_iff,decide_eq_false_iff_not]
  show ¬p.2 < _/\¬p.2 ≥ _
  (first | decide | lia | omega)
 rcases aV y with ⟨p,e,y⟩ | y
 ·obtain ⟨e1,e2⟩:=ah e
  apply bc;intro ng
  obtain ⟨x,kvs,rfl,i1,l1⟩:=kx S.hat e1 d
  rw [je e2] at d'
  obtain ⟨u,rfl⟩:=d'
  obtain ⟨v,ev,y⟩:=af y
  have z:=Kv.find i1 p.2
  rw [ev] at z
  obtain ⟨X,z1,z2⟩:=z
  apply ng;clear ng
  exact tail_any (s:=⟨h,gs,dr,n,os⟩) (l1.of w).typeIs slot_dict_getitem.lookup (wpAny_getItem_of (s:=⟨h,gs,dr,n,os⟩) (intKind_is _ _ _ _) (l1.of w).mapOf z1 (q _ _ _ _ y S z2)) (dN hs _ _)
 rcases aV y with ⟨p,e,y⟩ | y
 ·obtain ⟨e1,e2⟩:=ah e
  apply bc;intro ng
  obtain ⟨x,Vs,rfl,i1,l1⟩:=eS S.hat e1 d
  rw [je e2] at d'
  obtain ⟨u,rfl⟩:=d'
  obtain ⟨c,y⟩:=aj y
  have c:p.2 = -1:=of_decide_eq_true c
  obtain ⟨⟨c1,c2⟩,y⟩:=y
  have ll:=i1.length
  rw [List.getLast?_eq_getElem?] at c1
  obtain ⟨t,x1⟩:=i1.get _ _ c1
  apply ng;clear ng
  have l0:(ρ.l p.1).length - 1 < (ρ.l p.1).length:=(List.getElem?_eq_some_iff.mp c1).1
  show wpAny _ _ (subscriptTail value slice (.ref x) (.int p.2 u)) _ _ _
  refine aa c ?_
  refine tail_any (s:=⟨h,gs,dr,n,os⟩) (l1.typeIs (s:=⟨h,gs,dr,n,os⟩)) slot_list_getitem.lookup (wpAny_getItem_list_neg (s:=⟨h,gs,dr,n,os⟩) l1 (by (first | decide | lia | omega)) (by simp; (first | decide | lia | omega)) (by (first | decide | lia | omega)) (x:=.int _ t) ?_ (q _ _ _ _ y S ⟨t,rfl⟩)) (dN hs _ _)
  refine aa (show ((-1:Int) + (Vs.toArray.size:Nat)).toNat=(ρ.l p.1).length - 1 by simp; (first | decide | lia | omega)) ?_
  simpa using x1
 ·exact mn hs y S d d' q
theorem kB {a i v:AV} {V U X:Value} {k:St->Tr} {Q:Unit->Shared->Prop} (y:(gK a i v s k).ok ρ post) (S:SR w ρ O G env h s as) (d:Dn ρ as a V) (d':Dn ρ as i U) (d'':Dn ρ as v X)
  (q:∀s' h' n',(k s').ok ρ post->SR w ρ O G env h' s' as->Q () ⟨h',gs,dr,n',os⟩):wpAny (model pr w) A (setItem V U X) Q E ⟨h,gs,dr,n,os⟩:=by
 unfold gK at y
 apply bc;intro ng
 rcases aV y with ⟨p,e,y⟩ | y <;> refine ng ?_ <;> clear ng
 ·obtain ⟨j,e1,e2⟩:=az e
  apply bc;intro ng
  obtain ⟨ps,e3,e4⟩:=az e2
  obtain ⟨o,e5,e6⟩:=az e3
  obtain ⟨c,e7,rfl⟩:=Option.map_eq_some_iff.mp e4
  rw [bN e1] at d; rw [je e7] at d'
  obtain ⟨x,ex,rfl⟩:=d; obtain ⟨u,rfl⟩:=d'
  rw [sG e6] at e5
  obtain ⟨x',a1,⟨kvs,a2,a3⟩,-⟩:=S.get e5
  rw [ex] at a1; cases a1
  obtain ⟨hl,y⟩:=aj y
  apply ng;clear ng
  have hl:ps.length < 100:=of_decide_eq_true hl
  refine wpAny_setItem_pairs (s:=⟨h,gs,dr,n,os⟩) (k:=c) (intKind_is _ _ _ _) (a3.of w) (fun h' l' hs=>?_) (by have:=a2.len; refine aa sizeLine_eq ?_; (first | lia | omega))
  exact q _ _ _ y (S.obj (o':=.dc (oC ps c v)) e5 rfl ex hs ⟨_,Kv.put a2 d'',fu.mk a3.1 l'⟩)
 ·exact d7 y S d d' d'' q
theorem pL {value:Expr} {el eh:Option Expr} {p:Pos} {a:AV} {lo hi:Option IE} {V vl vh:Value} {k:AV->St->Tr} {Q:Value->Shared->Prop} (y:(mZ a lo hi s k).ok ρ post) (S:SR w ρ O G env h s as) (d:Dn ρ as a V) (d1:DB ρ lo vl) (d2:DB ρ hi vh)
  (q:∀v V s' h' as' n',(k v s').ok ρ post->SR w ρ O G env h' s' as'->aM as as'->Dn ρ as' v V->Q V ⟨h',gs,dr,n',os⟩) :
  wpAny (model pr w) A (subscriptTail value (.Slice el eh none p) V (.ref h.objs.size)) Q E ⟨h.push { cls:=.type "slice",data:=.fields #[vl,vh,.none] },gs,dr,n,os⟩:=by
 have S1:SR w ρ O G env (h.push { cls:=.type "slice",data:=.fields #[vl,vh,.none] }) s as:=S.stay fun zw zw e=>Heap.get?_push_of_some _ e
 have key:∀{x:Addr} {Vs:List Value} {b c:Nat},h.IsList x Vs.toArray->Vs.length<=1000->(CE.isl c b lo hi).den ρ->
   (Q (.ref (h.push { cls:=.type "slice",data:=.fields #[vl,vh,.none] }).objs.size) ⟨(h.push { cls:=.type "slice",data:=.fields #[vl,vh,.none] }).push { cls:=.type "list",data:=.seq (slV Vs (lo.map (IE.den ρ)) (hi.map (IE.den ρ))).toArray },gs,dr,n,os⟩)->
   wpAny (model pr w) A (subscriptTail value (.Slice el eh none p) (.ref x) (.ref h.objs.size)) Q E ⟨h.push { cls:=.type "slice",data:=.fields #[vl,vh,.none] },gs,dr,n,os⟩:=by
  intro x Vs b c l hz hc hq
  have hp:(h.push { cls:=.type "slice",data:=.fields #[vl,vh,.none] }).IsList x Vs.toArray:=l.push _
  refine tail_any (ops:=[.ref h.objs.size,.ref x]) (T:="list") (s:=⟨h.push _,gs,dr,n,os⟩) (Heap.IsList.typeIs (s:=⟨h.push _,gs,dr,n,os⟩) hp) list_getitem_lookup ?_ rfl
  refine wpAny_getItem_list_slice (s:=⟨h.push _,gs,dr,n,os⟩) hp (Heap.IsSliceOf.new ..) d1.part d2.part .none (by simp) ?_ (by refine aa List.size_toArray (aa sizeLine_eq ?_); (first | decide | lia | omega))
  refine aa (lC hc.1 hc.2.1) ?_
  exact hq
 unfold mZ at y
 apply bc;intro ng
 rcases aV y with ⟨b,e,y⟩ | y <;> refine ng ?_ <;> clear ng
 ·obtain ⟨x,Vs,rfl,i1,l1⟩:=eS S.hat e d
  apply bc;intro ng
  obtain ⟨c,y⟩:=y
  apply ng;clear ng
  refine key l1 (by refine aa i1.length ?_; exact c.2.2.2) c ?_
  exact q _ _ _ _ _ _ y (S1.newI (by refine aa c.2.2.1 ?_; exact IntsAre.slV i1 _ _)) ⟨_,rfl⟩ S1.lastD
 apply bc;intro ng
 rcases aV y with ⟨b,e,y⟩ | y <;> refine ng ?_ <;> clear ng
 ·obtain ⟨x,rfl,l1⟩:=dP S.hat e d
  apply bc;intro ng
  obtain ⟨c,y⟩:=y
  apply ng;clear ng
  refine key l1 (by rw [List.length_map]; exact c.2.2.2) c ?_
  exact q _ _ _ _ _ _ y (S1.newR (by refine aa c.2.2.1 ?_; exact vI _ _)) ⟨_,rfl⟩ S1.lastD
 apply bc;intro ng
 rcases aV y with ⟨b,e,y⟩ | y <;> refine ng ?_ <;> clear ng
 ·obtain ⟨_,_,y⟩:=af y
  exact y.elim
 ·obtain ⟨vs,e,y⟩:=af y
  apply bc;intro ng
  obtain ⟨r,er,y⟩:=af y
  obtain ⟨r1,r2⟩:=ah er
  obtain ⟨he,e2,e3⟩:=az r2
  obtain ⟨x,Vs,rfl,i1,l1⟩:=bD S.hat e d
  obtain ⟨c,y⟩:=aj y
  simp only [Bool.and_eq_true,decide_eq_true_eq] at c
  obtain ⟨⟨⟨⟨c1,c2⟩,c3⟩,c4⟩,c5⟩:=c
  have ll:=i1.len
  rw [e2,bP e3] at d2
  obtain ⟨u,rfl⟩:=d2
  apply ng;clear ng
  have hp:IsTup (h.push { cls:=.type "slice",data:=.fields #[vl,.int r.2 u,.none] }) x Vs.toArray:=let ⟨o,z1,z2⟩:=l1; ⟨o,Heap.get?_push_of_some _ z1,z2⟩
  refine tail_any (ops:=[.ref h.objs.size,.ref x]) (T:="tuple") (s:=⟨h.push _,gs,dr,n,os⟩) (hp.typeIs (s:=⟨h.push _,gs,dr,n,os⟩)) slot_tuple_getitem.lookup ?_ rfl
  have hb:r.2=((r.2.toNat:Nat):Int):=by (first | decide | lia | omega)
  have hs:=Heap.IsSliceOf.new h vl (.int r.2 u) .none
  rw [hb] at hs
  refine qU (s:=⟨h.push _,gs,dr,n,os⟩) (a:=r.1.toNat) (b:=r.2.toNat) hp (by rw [<- hb] at hs ⊢; exact hs) d1.part ?_ (by (first | decide | lia | omega)) (by simp; (first | decide | lia | omega)) (by simp; (first | decide | lia | omega)) ?_ (by refine aa List.size_toArray (aa sizeLine_eq ?_); (first | decide | lia | omega))
  ·induction lo with
   | none=>have r1:some (0:Int)=some r.1:=r1; have:=Option.some.inj r1; show (0:Int)=_; (first | decide | lia | omega)
   | some le=>have r1:le.c? = some r.1:=r1; refine aa (bP r1) ?_; show r.1=_; (first | decide | lia | omega)
  ·exact q _ _ _ _ _ _ y (S1.newT (((i1.drop _)).take _)) ⟨_,rfl⟩ S1.lastD
end
end
section
open PySem PySem.W PyProof.Rows PySem.Calls Builtin Builtin.ObjectAttr PySem.SeqAt
theorem gO {ρ:Rho} {post:Fl->St->Prop} {c:Bool} {t e:Tr} (y:(fC c t e).ok ρ post):(c=true/\t.ok ρ post)\/e.ok ρ post:=by
 induction c with | true=>exact .inl ⟨rfl,y⟩ | false=>exact .inr y
theorem gx {f:AV} {v:Value} (e:f8 f v=true):f = .glb v:=by
 induction f using AV.casesOn <;> first | (exact aa (eq_of_beq (a:=_) (b:=v) e) rfl) | exact bH e
def HB (w:World) (O:Opq):Prop:=∃hb,Wd w hb/\∀a o,hb.get? a=some o->O.g a=some o
theorem HB.k {w:World} {O:Opq} (H:HB w O) {a:Addr} {o:Obj} (e:(K w.params).lookup a=some o):O.g a=some o:=let ⟨_,W,k⟩:=H; k a o (W.k a o e)
set_option tactic.hygienic true
theorem jY {P:Params} {v:AV} {vs:List AV} (e:wo P v=some vs):∃x o,∃Vs:List Value,v = .glb (.ref x)/\(K P).lookup x=some o/\o.cls = .type "tuple"/\(∃n,o.data = .seq Vs.toArray n)/\vs=Vs.map jq:=by
 apply bc;intro ng
 obtain ⟨o,e1,e2⟩:=az e
 obtain ⟨x,e3,e4⟩:=az e1
 obtain ⟨u,e5,e6⟩:=az e3
 obtain ⟨Vs,e7,rfl⟩:=Option.map_eq_some_iff.mp e2
 apply ng;clear ng
 refine aa (nE e5) (aa (rK e6) ?_)
 induction hc:o.cls == .type "tuple" with
 | false=>unfold ni at e7; rw [hc] at e7; exact ap e7
 | true =>
  unfold ni at e7; rw [hc] at e7
  cases hd:o.data with
  | seq us n=>rw [hd] at e7; have e7:=aF e7; exact ⟨x,o,_,rfl,e4,eq_of_beq hc,⟨n,by exact aa hd (aa (Eq.symm e7) rfl)⟩,rfl⟩
  | _=>rw [hd] at e7; exact ap e7
set_option tactic.hygienic false
theorem bT {ob:List AO} {as:List Addr} (sz:as.length=ob.length) {ao:AO} {a0:Addr} (i:Nat) (x:AO) (a:Addr) (e:(ob++[ao])[i]? = some x) (e':(as++[a0])[i]? = some a):(ob[i]? = some x/\as[i]? = some a)\/(i=ob.length/\x=ao/\a=a0):=by
 by_cases hi:i < ob.length
 ·rw [List.getElem?_append_left hi] at e
  rw [List.getElem?_append_left (by refine aa sz ?_; exact hi)] at e'
  exact .inl ⟨e,e'⟩
 ·rw [List.getElem?_append_right (by (first | lia | omega))] at e
  rw [List.getElem?_append_right (by refine aa sz ?_; (first | lia | omega))] at e'
  have h0:i - ob.length=0:=by
   have:=(List.getElem?_eq_some_iff.mp e).1; simp at this; (first | lia | omega)
  rw [h0] at e; rw [sz,h0] at e'
  simp at e e'
  exact .inr ⟨by (first | lia | omega),e.symm,e'.symm⟩
section
variable {w:World} {ρ:Rho} {O:Opq} {d:Nat} {r:Rc} {post:Fl->St->Prop} {A:Around} {gs:Array GenState} {dr:Drawn} {os:OsState} {G:Gr} {Er:Value->Shared->Prop} {env:Env} {h h':Heap} {ob:List AO} {pc:List (CE×Bool)} {as:List Addr} {s:St}
theorem Co.tie (S:Co w ρ O G h ob pc as) {ao:AO} (a0:Addr) (ow:ao.own=false) (y:aC ρ O (as++[a0]) h a0 ao):Co w ρ O G h (ob++[ao]) pc (as++[a0]):=by
 refine ⟨S.bs,S.kp,S.og,by simp [S.sz],fun i x a e e'=>?_,fun i j x x' a e1 e2 w1 w2 e3 e4=>?_,S.pc⟩
 ·rcases bT S.sz i x a e e' with ⟨f1,f2⟩ | ⟨f1,rfl,rfl⟩
  ·obtain ⟨z1,z2⟩:=S.ob i x a f1 f2
   exact ⟨z1.keep ⟨_,rfl⟩ (fun zw x e=>e),z2⟩
  ·exact ⟨y,fun z=>by rw [ow] at z; exact bH z⟩
 ·rcases bT S.sz i x a e1 e3 with ⟨f1,f2⟩ | ⟨f1,rfl,rfl⟩
  ·rcases bT S.sz j x' a e2 e4 with ⟨g1,g2⟩ | ⟨g1,rfl,rfl⟩
   ·exact S.nd i j x x' a f1 g1 w1 w2 f2 g2
   ·rw [ow] at w2; exact bH w2
  ·rw [ow] at w1; exact bH w1
theorem SR.tie (S:SR w ρ O G env h s as) {ao:AO} (a0:Addr) (ow:ao.own=false) (y:aC ρ O (as++[a0]) h a0 ao):SR w ρ O G env h { s with ob:=s.ob++[ao] } (as++[a0]) :=
 S.back (s':={ s with ob:=s.ob++[ao] }) (S.co.tie a0 ow y) ⟨_,rfl⟩ rfl rfl
theorem Co.new (S:Co w ρ O G h ob pc as) (k:h.StaysIn h') {ao:AO} (y:aC ρ O (as++[h.objs.size]) h' h.objs.size ao):Co w ρ O G h' (ob++[ao]) pc (as++[h.objs.size]):=by
 have gn:G h.objs.size=none:=by
  induction q:G h.objs.size with
  | none=>rfl
  | some x=>exact absurd (Heap.lt_size (S.kp _ _ q)) (Nat.lt_irrefl _)
 refine ⟨S.bs,fun a x e=>k _ _ (S.kp a x e),S.og,by simp [S.sz],fun i x a e e'=>?_,fun i j x x' a e1 e2 w1 w2 e3 e4=>?_,S.pc⟩
 ·rcases bT S.sz i x a e e' with ⟨f1,f2⟩ | ⟨f1,rfl,rfl⟩
  ·obtain ⟨z1,z2⟩:=S.ob i x a f1 f2
   exact ⟨z1.keep ⟨_,rfl⟩ (fun zw x e=>k _ _ e),z2⟩
  ·exact ⟨y,fun zw=>gn⟩
 ·rcases bT S.sz i x a e1 e3 with ⟨f1,f2⟩ | ⟨f1,rfl,rfl⟩
  ·rcases bT S.sz j x' a e2 e4 with ⟨g1,g2⟩ | ⟨g1,rfl,rfl⟩
   ·exact S.nd i j x x' a f1 g1 w1 w2 f2 g2
   ·exact absurd ((S.ob i x _ f1 f2).1.lt w1) (Nat.lt_irrefl _)
  ·rcases bT S.sz j x' _ e2 e4 with ⟨g1,g2⟩ | ⟨g1,rfl,-⟩
   ·exact absurd ((S.ob j x' _ g1 g2).1.lt w2) (Nat.lt_irrefl _)
   ·(first | lia | omega)
theorem Co.lastD {pc:List (CE×Bool)} (S:Co w ρ O G h s.ob pc as) {x:Addr}:Dn ρ (as++[x]) (.loc s.ob.length) (.ref x):=⟨x,by refine aa (Eq.symm S.sz) ?_; exact aY,rfl⟩
theorem mY {v:AV} {k:Nat->St->Tr} {V:Value} {as:List Addr} (H:HB w O) (y:(Gg w.params v s k).ok ρ post) (sz:as.length=s.ob.length) (d:Dn ρ as v V) :
  (∃i,v = .loc i/\(k i s).ok ρ post)\/∃x vs,V = .ref x/\(k s.ob.length { s with ob:=s.ob++[.fz (.tup vs)] }).ok ρ post/\∀as',aO ρ as' O.g x (.tup vs):=by
 unfold Gg at y
 induction e:v.l? with
 | some i=>rw [e] at y; exact .inl ⟨i,bN e,y⟩
 | none =>
  rw [e] at y
  apply bc;intro ng
  obtain ⟨vs,e1,y⟩:=af y
  obtain ⟨x,o,Vs,rfl,e2,e3,⟨m,e4⟩,rfl⟩:=jY e1
  apply ng;clear ng
  exact .inr ⟨x,_,d,y,fun as'=>⟨Vs,nR Vs,o,H.k e2,e3,m,e4⟩⟩
theorem uK {a:AV} {k:AV->St->Tr} {n:Nat} {V:Value} {Q:Value->Shared->Prop} (H:HB w O)
  (y:(yU w.params a s k).ok ρ post) (S:Co w ρ O G h s.ob s.pc as) (da:Dn ρ as a V)
  (q:∀v V s' h' as' n',s'.ls=s.ls->s'.cl=s.cl->(k v s').ok ρ post->Co w ρ O G h' s'.ob s'.pc as'->aM as as'->Dn ρ as' v V->Q V ⟨h',gs,dr,n',os⟩):wpAny (model pr w) A (call (.type "list") [V]) Q Er ⟨h,gs,dr,n,os⟩:=by
 have key:∀{s':St} {as':List Addr} {i:Nat},s'.ls=s.ls->s'.cl=s.cl->Co w ρ O G h s'.ob s'.pc as'->aM as as'->Dn ρ as' (.loc i) V->(cX (jN s' (.loc i)) (fun b=>.req (.ilen b 0) (mk (.rf b) s' k)) <|
   cX (lstAt s' (.loc i)) (fun vs=>bO (decide (vs.length < 100)) (mk (.lst vs) s' k)) <| aT (tupAt s' (.loc i)) fun vs=>bO (decide (vs.length < 100)) (mk (.lst vs) s' k)).ok ρ post->wpAny (model pr w) A (call (.type "list") [V]) Q Er ⟨h,gs,dr,n,os⟩:=by
  intro s' as' i e1 e2 S p d y
  rcases aV y with ⟨b,e,y⟩ | y
  ·obtain ⟨x,rfl,o,l1,l2,m,l3⟩:=dP S.hat e d
   obtain ⟨c,y⟩:=y
   have c:(ρ.l b).length + 0<=1000:=c
   refine call_list_seq (s:=⟨h,gs,dr,n,os⟩) x (.inl rfl) l1 l2 l3 (fun h' c' kk ho=>?_) (by simp; rw [sizeLine_eq]; (first | decide | lia | omega))
   exact q _ _ { s' with ob:=s'.ob++[.rf b] } _ _ _ e1 e2 y (S.new kk (ao:=.rf b) ⟨_,ho,_,rfl⟩) (p.trans ⟨_,rfl⟩) S.lastD
  have aq:∀{x:Addr} {vs:List AV} {Vs:List Value} {T:String} (o:Obj),(T = "list"\/T = "tuple")->h.get? x=some o->o.cls = .type T->(∃m,o.data = .seq Vs.toArray m)->V = .ref x->All2 (Dn ρ as') vs Vs->(bO (decide (vs.length < 100)) (mk (.lst vs) s' k)).ok ρ post->wpAny (model pr w) A (call (.type "list") [V]) Q Er ⟨h,gs,dr,n,os⟩:=by
   intro x vs Vs T o hT l1 l2 ⟨m,l3⟩ hV dv y
   subst hV
   obtain ⟨c,y⟩:=aj y
   have c:=of_decide_eq_true c
   have ll:=dv.len
   refine call_list_seq (s:=⟨h,gs,dr,n,os⟩) x hT l1 l2 l3 (fun h' c' kk ho=>?_) (by simp; rw [sizeLine_eq]; (first | decide | lia | omega))
   exact q _ _ { s' with ob:=s'.ob++[.lst vs] } _ _ _ e1 e2 y (S.new kk (ao:=.lst vs) ⟨Vs,dv.mono fun zw zw z=>z.pre ⟨_,rfl⟩,_,ho,rfl,_,rfl⟩) (p.trans ⟨_,rfl⟩) S.lastD
  rcases aV y with ⟨b,e,y⟩ | y
  ·obtain ⟨x,Vs,hV,dv,o,l1,l2,m,l3⟩:=eA S.hat e d
   exact aq o (.inl rfl) l1 l2 ⟨m,l3⟩ hV dv y
  ·obtain ⟨b,e,y⟩:=af y
   obtain ⟨x,Vs,hV,dv,o,l1,l2,m,l3⟩:=bD S.hat e d
   exact aq o (.inr rfl) l1 l2 ⟨m,l3⟩ hV dv y
 rcases mY H y S.sz da with ⟨i,rfl,y⟩ | ⟨x,vs,rfl,y,F⟩
 ·exact key rfl rfl S .refl da y
 ·exact key (s':={ s with ob:=s.ob++[.fz (.tup vs)] }) rfl rfl (S.tie x rfl (F _)) ⟨_,rfl⟩ S.lastD y
set_option tactic.hygienic true
theorem qM {hk:Hk} (HH:HB w O) (H:ay w ρ O hk (d + 1)) (R:Snd w ρ O d r) {fv:AV} {args:List AV} {s:St} {k:AV->St->Tr} {h:Heap} {n:Nat} {as:List Addr} {V:Value} {Us:List Value} {Q:Value->Shared->Prop} (hR:Room A (d + 1))
  (y:(nG w.params hk r fv args s k).ok ρ post) (S:Co w ρ O G h s.ob s.pc as) (df:Dn ρ as fv V) (da:All2 (Dn ρ as) args Us)
  (q:∀v V s' h' as' n',s'.ls=s.ls->s'.cl=s.cl->(k v s').ok ρ post->Co w ρ O G h' s'.ob s'.pc as'->aM as as'->Dn ρ as' v V->Q V ⟨h',gs,dr,n',os⟩):wpAny (model pr w) A (call V Us) Q Er ⟨h,gs,dr,n,os⟩:=by
 have one:∀{v:Value} {a:AV},f8 fv v=true->be args=some a->V=v/\∃U,Us = [U]/\Dn ρ as a U:=fun e1 e2=>by
  rw [gx e1] at df
  rw [ba e2] at da
  cases da; rename_i d1 da; cases da
  exact ⟨df,_,rfl,d1⟩
 unfold nG at y
 rcases gO y with ⟨f,y⟩ | y
 ·obtain ⟨a,e,y⟩:=af y
  obtain ⟨rfl,U,rfl,d1⟩:=one f e
  exact uK HH y S d1 q
 rcases gO y with ⟨f,y⟩ | y
 ·obtain ⟨a,e,y⟩:=af y
  obtain ⟨rfl,U,rfl,d1⟩:=one f e
  rcases aV y with ⟨vs,e,y⟩ | y
  ·obtain ⟨x,Vs,rfl,dv,l⟩:=bD S.hat e d1
   exact call_tuple_tup (s:=⟨h,gs,dr,n,os⟩) l (q _ _ _ _ _ _ rfl rfl y S .refl d1)
  rcases aV y with ⟨vs,e,y⟩ | y
  ·obtain ⟨x,o,Vs,rfl,e2,e3,⟨m,e4⟩,rfl⟩:=jY e
   have d1:U = .ref x:=d1
   subst d1
   exact call_tuple_tup (s:=⟨h,gs,dr,n,os⟩) (items:=Vs.toArray) ⟨o,S.kp _ _ (S.og _ _ (HH.k e2)),e3,m,e4⟩ (q (.glb (.ref x)) _ _ _ _ _ rfl rfl y S .refl rfl)
  ·exact di H R hR y S df da q
 rcases gO y with ⟨f,y⟩ | y
 ·obtain ⟨a,e,y⟩:=af y
  have f2:=f
  obtain ⟨rfl,U,rfl,d1⟩:=one f e
  have df':∀as',Dn ρ as' fv (.builtin "len"):=fun as'=>by refine aa (gx f2) ?_; rfl
  rcases aV y with ⟨b,eb,y⟩ | y
  ·obtain ⟨x,rfl,l⟩:=dP S.hat eb d1
   obtain ⟨⟨c1,c2⟩,y⟩:=y
   have e:((((ρ.l b).map ak).toArray.size:Nat):Int)=(CC b).den ρ:=by refine aa (Eq.symm c1) ?_; simp
   exact call_len_list (s:=⟨h,gs,dr,n,os⟩) l (by simp; (first | lia | omega)) (q (.int (CC b)) _ _ _ _ _ rfl rfl y S .refl ⟨_,by exact aa e rfl⟩)
  rcases mY HH y S.sz d1 with ⟨i,rfl,y⟩ | ⟨x,vs,rfl,y,F⟩
  ·exact di H R hR y S df (.cons d1 .nil) q
  ·have S':Co w ρ O G h (s.ob++[.fz (.tup vs)]) s.pc (as++[x]):=S.tie x rfl (F _)
   exact di (s:={ s with ob:=s.ob++[.fz (.tup vs)] }) H R hR y S' (df' _) (.cons S.lastD .nil) fun v V s' h' as' n' e1 e2 y S p dv=>q _ _ _ _ _ _ e1 e2 y S (aM.trans ⟨_,rfl⟩ p) dv
 rcases gO y with ⟨f,y⟩ | y
 ·obtain ⟨b,e,y⟩:=af y
  obtain ⟨a,e1,e2⟩:=az e
  obtain ⟨rfl,U,rfl,d1⟩:=one f e1
  rw [xA e2] at d1
  have d1:U=_:=d1
  subst d1
  exact call_int_bool (s:=⟨h,gs,dr,n,os⟩) (q (.int (.c (if b then 1 else 0))) _ _ _ _ _ rfl rfl y S .refl ⟨_,rfl⟩)
 rcases gO y with ⟨f,y⟩ | y
 ·obtain ⟨ps,e,y⟩:=af y
  obtain ⟨a,e1,e2⟩:=az e
  obtain ⟨rfl,U,rfl,d1⟩:=one f e1
  obtain ⟨x,kvs,rfl,dv,l⟩:=kx S.hat e2 d1
  obtain ⟨c,y⟩:=aj y
  have c:=of_decide_eq_true c
  have ll:=dv.len
  refine kt_call_dict (s:=⟨h,gs,dr,n,os⟩) l.1 (l.of w) (by refine aa sizeLine_eq ?_; (first | lia | omega)) fun h' l' hs=>?_
  have kk:h.StaysIn h':=fun b o e=>(hs.2 b (Nat.ne_of_lt (Heap.lt_size e))).trans (Heap.get?_push_of_some _ e)
  have big:(h.objs.size == sysModules)=false:=by
   have:=Heap.lt_size (S.kp _ _ (S.og _ _ (HH.k (a:=3) rfl)))
   rw [beq_eq_false_iff_ne]; intro z; rw [z] at this; exact absurd this (by decide)
  exact q _ _ { s with ob:=s.ob++[.dc ps] } _ _ _ rfl rfl y (S.new kk (ao:=.dc ps) ⟨kvs,dv.mono fun zw zw z=>z.pre ⟨_,rfl⟩,fu.mk big l'⟩) ⟨_,rfl⟩ S.lastD
 rcases gO y with ⟨f,y⟩ | y
 ·rcases aV y with ⟨u,e,y⟩ | y
  ·obtain ⟨p,e1,e2⟩:=az e
   obtain ⟨tt,e3,e4⟩:=az e2
   rw [cq e1] at da
   rw [gx f] at df
   cases da; rename_i d1 da; cases da; rename_i d2 da; cases da
   have df:V=_:=df
   subst df
   rw [nE e3] at d2
   cases d2
   by_cases hx:A5 p.1 tt s=true
   ·unfold A5 at hx
    simp only [Bool.or_eq_true,Bool.and_eq_true] at hx
    rcases hx with ⟨h1,h2⟩ | ⟨h1,h2⟩
    ·obtain ⟨z,hz⟩:=Option.isSome_iff_exists.mp h1
     rw [nu hz] at d1
     obtain ⟨tk,rfl⟩:=d1
     refine aa (eq_of_beq h2) ?_
     exact call_isinstance_yes (typeIs_str _ _ _) PyProof.Rows.meta_str isSubtype_str_str (q (.bool true) _ _ _ _ _ rfl rfl y S .refl rfl)
    ·obtain ⟨z,hz⟩:=Option.isSome_iff_exists.mp h1
     obtain ⟨x,Vs,rfl,dv,l⟩:=bD S.hat hz d1
     refine aa (eq_of_beq h2) ?_
     exact call_isinstance_yes (s:=⟨h,gs,dr,n,os⟩) (IsTup.typeIs (s:=⟨h,gs,dr,n,os⟩) l) PyProof.Rows.meta_tuple isSubtype_tuple_tuple (q (.bool true) _ _ _ _ _ rfl rfl y S .refl rfl)
   ·rw [if_neg hx] at e4; exact ap e4
  ·exact di H R hR y S df da q
 ·exact di H R hR y S df da q
set_option tactic.hygienic false
end
end
section
open PySem PySem.W PyProof.Rows PySem.Calls Builtin Builtin.ObjectAttr PySem.SeqAt
section
variable {w:World} {ρ:Rho} {O:Opq} {d:Nat} {r:Rc} {post:Fl->St->Prop} {env:Env} {A:Around} {gs:Array GenState} {dr:Drawn} {os:OsState} {G:Gr} {Er:Value->Shared->Prop}
theorem qB {elts es:List Expr} {k0 k1:Nat} {p0 p1:Pos} (ek:env.scope.kind = .function) (h1:(elts.length == 2 || elts.length == 3)=true) (h2:(es.length == elts.length)=true) (h3:es.any aK=false)
  (hn:(bt env.scope elts).length=elts.length) (hd:((bt env.scope elts).eraseDups.length == (bt env.scope elts).length)=true) (hf:es.all (foldedForSure 8)=false) (hc:es.all (constantsAlone 8)=false) :
  swappedStores [.Tuple elts k0 p0] (.Tuple es k1 p1) env=pure (some (bt env.scope elts)):=by
 have e1:(!(elts.length == 2 || elts.length == 3) || es.length != elts.length || env.blockKind != .function)=false:=by
  have:env.blockKind = .function:=by unfold Env.blockKind; refine aa ek ?_; rfl
  rw [h1,this,bne,h2]; rfl
 have e2:((bt env.scope elts).length != elts.length || (bt env.scope elts).eraseDups.length != (bt env.scope elts).length)=false:=by
  rw [bne,bne,hd,hn,beq_self_eq_true]; rfl
 have e0:swappedStores [.Tuple elts k0 p0] (.Tuple es k1 p1) env=(do
  if (!(elts.length == 2 || elts.length == 3) || es.length != elts.length || env.blockKind != .function)=true then return none
  if es.any aK=true then return none
  if ((bt env.scope elts).length != elts.length || (bt env.scope elts).eraseDups.length != (bt env.scope elts).length)=true then return none
  if es.all (foldedForSure 8)=true then return none
  if es.all (constantsAlone 8)=true then unsupported "assign.tuple-of-constant-expressions:order-of-the-stores"
  return some (bt env.scope elts)):=rfl
 refine aa e0 (aa e1 (aa h3 (aa e2 (aa hf (aa hc ?_)))))
 rfl
theorem pJ {elts es:List Expr} {k0 k1:Nat} {p0 p1:Pos} (hn:(bt env.scope elts).length≠elts.length):swappedStores [.Tuple elts k0 p0] (.Tuple es k1 p1) env=pure none:=by
 have e2:((bt env.scope elts).length != elts.length || (bt env.scope elts).eraseDups.length != (bt env.scope elts).length)=true:=by
  rw [bne,beq_eq_false_iff_ne.mpr hn]; rfl
 have e0:swappedStores [.Tuple elts k0 p0] (.Tuple es k1 p1) env=(do
  if (!(elts.length == 2 || elts.length == 3) || es.length != elts.length || env.blockKind != .function)=true then return none
  if es.any aK=true then return none
  if ((bt env.scope elts).length != elts.length || (bt env.scope elts).eraseDups.length != (bt env.scope elts).length)=true then return none
  if es.all (foldedForSure 8)=true then return none
  if es.all (constantsAlone 8)=true then unsupported "assign.tuple-of-constant-expressions:order-of-the-stores"
  return some (bt env.scope elts)):=rfl
 refine aa e0 (aa e2 ?_)
 cases (!(elts.length == 2 || elts.length == 3) || es.length != elts.length || env.blockKind != .function) with
 | true=>rfl
 | false=>cases es.any aK <;> rfl
theorem iT {k:St->Tr}:∀{xs:List Str} {vs:List AV} {Vs:List Value} {s:St} {h:Heap} {n:Nat} {as:List Addr} {Q:Unit->Shared->Prop},(lg.xStoreN env.scope xs vs s k).ok ρ post->
  SR w ρ O G env h s as->All2 (Dn ρ as) vs Vs->(∀s' h' n',(k s').ok ρ post->SR w ρ O G env h' s' as->Q () ⟨h',gs,dr,n',os⟩)->
  wpAny (model pr w) A (assignInOrder (xs.map fun n=>bindName env n) Vs) Q Er ⟨h,gs,dr,n,os⟩
 | [],[],_,s,h,n,as,Q,y,S,.nil,q=>assignInOrder_nil (q _ _ _ y S)
 | [],_::_,_,s,h,n,as,Q,y,S,_,q=>y.elim
 | _::_,[],_,s,h,n,as,Q,y,S,_,q=>y.elim
 | x::xs,v::vs,_,s,h,n,as,Q,y,S,.cons dv dvs,q =>
  assignInOrder_cons (bindName_ (aW y S dv fun s' h' n' y S'=>iT y S' dvs q))
theorem pT (R:Snd w ρ O d r) {t:Expr} {body:List Stmt} {k:Fl->St->Tr} {Q:Flow->Shared->Prop} (hR:Room A d) {as₀:List Addr}
  (q:∀fl F s' h' as' n',(k fl s').ok ρ post->SR w ρ O G env h' s' as'->aM as₀ as'->lN ρ as' fl F->Q F ⟨h',gs,dr,n',os⟩) {nn:Nat} {s:St} {h:Heap} {n:Nat} {as:List Addr} (y:(i4 r env.scope t body k nn s).ok ρ post) (S:SR w ρ O G env h s as) (p₀:aM as₀ as) :
  codeAny (model pr w) A (.whileLoop t body [] env) (fun r s'=>match r with | .ok f=>Q f s' | .error e=>cameBackBy (model pr w) A env Er e s') ⟨h,gs,dr,n,os⟩:=by
 refine codeAny_whileLoop (fun nn st=>∃s h n as,st=⟨h,gs,dr,n,os⟩/\(i4 r env.scope t body k nn s).ok ρ post/\SR w ρ O G env h s as/\aM as₀ as) (fun nn st I=>?_) nn ⟨s,h,n,as,rfl,y,S,p₀⟩
 apply bc;intro ng
 obtain ⟨s,h,n,as,rfl,y,S,p₀⟩:=I
 apply ng;clear ng
 induction nn using Nat.casesOn with
 | zero=>exact y.elim
 | succ nn =>
  simp only [i4] at y
  refine R.T hR y S (fun zw=>rfl) fun c s' h' as' n' y S' p=>?_
  induction c with
  | false=>exact wpAny_execs_nil (q _ _ _ _ _ _ y S' (p₀.trans p) rfl)
  | true =>
   refine cj R hR y S' fun fl F s3 h3 as3 n3 y S3 p3 df=>?_
   have p4:=(p₀.trans p).trans p3
   induction fl with
   | nx=>have df:F = .next:=df; subst df; exact ⟨nn,Nat.lt_succ_self _,_,_,_,_,rfl,y,S3,p4⟩
   | ct=>have df:F = .cont:=df; subst df; exact ⟨nn,Nat.lt_succ_self _,_,_,_,_,rfl,y,S3,p4⟩
   | bk=>have df:F = .brk:=df; subst df; exact q _ _ _ _ _ _ y S3 p4 rfl
   | rt v=>obtain ⟨V,rfl,dv⟩:=df; exact q _ _ _ _ _ _ y S3 p4 ⟨V,rfl,dv⟩
theorem lP (R:Snd w ρ O d r) (hR:Room A d) {e:Option Expr} {s:St} {k:Option IE->St->Tr} {h:Heap} {n:Nat} {as:List Addr} {Q:Value->Shared->Prop} (y:(sN r env.scope e s k).ok ρ post) (S:SR w ρ O G env h s as)
  (q:∀v V s' h' as' n',(k v s').ok ρ post->SR w ρ O G env h' s' as'->aM as as'->DB ρ v V->Q V ⟨h',gs,dr,n',os⟩):wpAny (model pr w) A (evalPart e env) Q Er ⟨h,gs,dr,n,os⟩:=by
 induction e with
 | none=>rw [evalPart_none]; exact wpAny_pure (q _ _ _ _ _ _ y S .refl rfl)
 | some e =>
  rw [evalPart_some]
  refine R.E hR y S fun v V s' h' as' n' y S' p dv=>?_
  obtain ⟨i,ei,y⟩:=af y
  rw [cP ei] at dv
  exact q _ _ _ _ _ _ y S' p dv
set_option tactic.hygienic true
theorem pI (R:Snd w ρ O d r) {e:Expr} {s:St} {k:AV->St->Tr} {h:Heap} {n:Nat} {as:List Addr} {Q:Value->Shared->Prop} (hb:HB w O) (h2:2<=d) (hR:Room A (d + 1)) (y:(sR w.params r env.scope e s k).ok ρ post) (S:SR w ρ O G env h s as)
  (q:∀v V s' h' as' n',(k v s').ok ρ post->SR w ρ O G env h' s' as'->aM as as'->Dn ρ as' v V->Q V ⟨h',gs,dr,n',os⟩):wpAny (model pr w) A (eval e env) Q Er ⟨h,gs,dr,n,os⟩:=by
 have hR0:Room A d:=hR.le (Nat.le_succ _)
 have hu:A.units + 70 < cLine:=by have:=hR.un; (first | lia | omega)
 induction e using Expr.casesOn <;> try exact iS R hR0 y S q
 ·rename_i a op b pos
  refine wpAny_BinOp (R.E hR0 y S fun v V s' h' as' n' y S' p dv=>?_)
  refine R.E hR0 y S' fun u U s'' h'' as'' n'' y S'' p' du=>?_
  exact kY y S'' (dv.pre p') du fun v V s3 h3 as3 n3 y S3 p3 dv=>q _ _ _ _ _ _ y S3 ((p.trans p').trans p3) dv
 ·rename_i ks vs pos
  obtain ⟨c,y⟩:=aj y
  simp only [Bool.and_eq_true,List.isEmpty_iff] at c
  obtain ⟨rfl,rfl⟩:=c
  refine wpAny_Dict_empty (s:=⟨h,gs,dr,n,os⟩) ?_
  have big:(h.objs.size == sysModules)=false:=by
   have:=Heap.lt_size (S.kp _ _ (S.og _ _ (hb.k (a:=3) rfl)))
   rw [beq_eq_false_iff_ne]; intro z; rw [z] at this; exact absurd this (by decide)
  exact q _ _ _ _ _ _ y (S.push _ (ao:=.dc []) ⟨[],.nil,fu.mk (w:=w) big (Heap.DictOf.new h)⟩) ⟨_,rfl⟩ S.lastD
 ·rename_i a ops cs pos
  revert y
  show (Tr.ok ρ post (match aq (be ops) (be cs) with | some q=>_ | none=>_))->_
  induction e:aq (be ops) (be cs) with
  | none=>exact fun y=>iS R hR0 y S q
  | some z =>
   obtain ⟨z1,z2⟩:=ah e
   refine aa (ba z1) (aa (ba z2) ?_)
   intro y
   dsimp only at y
   by_cases hm:behindInMarks z.1 z.2=true
   ·rw [if_pos hm] at y; exact y.elim
   ·rw [if_neg hm] at y
    rw [Bool.not_eq_true] at hm
    refine wpAny_Compare1 (R.E hR0 y S fun v V s' h' as' n' y S' p dv=>?_) hm
    refine R.E hR0 y S' fun u U s'' h'' as'' n'' y S'' p' du=>?_
    exact lM hu y S'' (dv.pre p') du fun c s3 n3 y S3=>q _ _ _ _ _ _ y S3 (p.trans p') rfl
 ·rename_i o i pos
  revert y
  show (Tr.ok ρ post (match ka i with | some q=>_ | none=>_))->_
  induction e:ka i with
  | some z =>
   obtain ⟨pp,rfl⟩:=F9 e
   intro y
   dsimp only at y
   refine Subscript_ (R.E hR0 y S fun v V s' h' as' n' y S' p dv=>?_)
   refine wpAny_Slice (lP R hR0 y S' fun lo vl s2 h2 as2 n2 y S2 p2 d2=>lP R hR0 y S2 fun hi vh s3 h3 as3 n3 y S3 p3 d3=>?_)
   rw [evalPart_none]
   refine wpAny_pure (pL y S3 ((dv.pre p2).pre p3) d2 d3 fun v V s4 h4 as4 n4 y S4 p4 d4=>q _ _ _ _ _ _ y S4 (((p.trans p2).trans p3).trans p4) d4)
  | none =>
   intro y
   dsimp only at y
   by_cases hs:cv i=true
   ·rw [if_pos hs] at y; exact y.elim
   ·rw [if_neg hs] at y
    rw [Bool.not_eq_true] at hs
    refine Subscript_ (R.E hR0 y S fun v V s' h' as' n' y S' p dv=>?_)
    refine R.E hR0 y S' fun u U s'' h'' as'' n'' y S'' p' du=>?_
    exact pP hs y S'' (dv.pre p') du fun v V s3 n3 y S3 dv=>q _ _ _ _ _ _ y S3 (p.trans p') dv
theorem qj (R:Snd w ρ O d r) {e:Expr} {s:St} {k:Bool->St->Tr} {h:Heap} {n:Nat} {as:List Addr} {Q:Bool->Shared->Prop} {whole:Sem Value} (h2:2<=d) (hR:Room A (d + 1)) (y:(te r env.scope e s k).ok ρ post) (S:SR w ρ O G env h s as)
  (hw:dY e=true->whole=eval e env) (q:∀c s' h' as' n',(k c s').ok ρ post->SR w ρ O G env h' s' as'->aM as as'->Q c ⟨h',gs,dr,n',os⟩):wpAny (model pr w) A (isTrue e env whole) Q Er ⟨h,gs,dr,n,os⟩:=by
 have hR0:Room A d:=hR.le (Nat.le_succ _)
 have hu:A.units + 70 < cLine:=by have:=hR.un; (first | lia | omega)
 induction e using Expr.casesOn <;> try exact iD R hR0 y S hw q
 ·rename_i a ops cs pos
  revert y
  show (Tr.ok ρ post (match aq (be ops) (be cs) with | some q=>_ | none=>_))->_
  induction e:aq (be ops) (be cs) with
  | none=>exact fun y=>iD R hR0 y S hw q
  | some z =>
   apply bc;intro ng
   obtain ⟨z1,z2⟩:=ah e
   apply ng;clear ng
   refine aa (ba z1) (aa (ba z2) ?_)
   intro y
   dsimp only at y
   by_cases hm:behindInMarks z.1 z.2=true
   ·rw [if_pos hm] at y; exact y.elim
   ·rw [if_neg hm] at y
    rw [Bool.not_eq_true] at hm
    refine wpAny_isTrue_Compare1 (R.E hR0 y S fun v V s' h' as' n' y S' p dv=>?_) hm
    refine R.E hR0 y S' fun u U s'' h'' as'' n'' y S'' p' du=>?_
    exact lM hu y S'' (dv.pre p') du fun c s3 n3 y S3=>wpAny_truthy_bool (q _ _ _ _ _ y S3 (p.trans p'))
set_option tactic.hygienic false
theorem tI (R:Snd w ρ O d r) (hR:Room A d) {elts es:List Expr} {c0 c1:Nat} {tp p1 pos:Pos} {s:St} {k:Fl->St->Tr} {h:Heap} {n:Nat} {as:List Addr} {Q:Flow->Shared->Prop} (y:(lg w.params r env.scope elts es (.Tuple es c1 p1) s fun s=>k .nx s).ok ρ post) (S:SR w ρ O G env h s as)
  (q:∀fl F s' h' as' n',(k fl s').ok ρ post->SR w ρ O G env h' s' as'->aM as as'->lN ρ as' fl F->Q F ⟨h',gs,dr,n',os⟩):wpAny (model pr w) A (exec (.Assign [.Tuple elts c0 tp] (.Tuple es c1 p1) pos) env) Q Er ⟨h,gs,dr,n,os⟩:=by
 unfold lg at y
 apply bc;intro ng
 obtain ⟨c,y⟩:=aj y
 simp only [Bool.and_eq_true,Bool.not_eq_true'] at c
 obtain ⟨⟨⟨c2,c3⟩,c4⟩,c5⟩:=c
 apply ng;clear ng
 by_cases hn:(bt env.scope elts).length=elts.length
 ·rw [if_pos hn] at y
  apply bc;intro ng
  obtain ⟨c,y⟩:=aj y
  simp only [Bool.and_eq_true,Bool.not_eq_true'] at c
  obtain ⟨⟨c6,c7⟩,c8⟩:=c
  apply ng;clear ng
  refine Assign_Tuple_swapped (R.E hR y S fun v V s' h' as' n' y S' p dv=>?_) (nr rfl) (qB S.ek c3 c4 c5 hn c6 c7 c8)
  apply bc;intro ng
  obtain ⟨vs,e,y⟩:=af y
  obtain ⟨x,Vs,rfl,dvs,l⟩:=bD S'.hat e dv
  obtain ⟨c1,y⟩:=aj y
  apply ng;clear ng
  have c1:=of_decide_eq_true c1
  have ll:=dvs.len
  have e9:(bt env.scope elts).length=Vs.toArray.size:=by rw [List.size_toArray]; (first | lia | omega)
  rw [e9]
  refine unpackItems_tuple (s:=⟨h',gs,dr,n',os⟩) hR.hd l fun h2 hx=>?_
  exact iT y (S'.stayX hx) dvs.rev fun s3 h3 n3 y S3=>q _ _ _ _ _ _ y S3 p rfl
 ·rw [if_neg hn] at y
  refine Assign_Tuple (R.E hR y S fun v V s' h' as' n' y S' p dv=>?_) (nr rfl) (pJ hn)
  apply bc;intro ng
  obtain ⟨vs,e,y⟩:=af y
  obtain ⟨x,Vs,rfl,dvs,l⟩:=bD S'.hat e dv
  obtain ⟨c1,y⟩:=aj y
  apply ng;clear ng
  have c1:=of_decide_eq_true c1
  refine assign_Tuple_tuple (s:=⟨h',gs,dr,n',os⟩) hR.hd l (by rw [(gb c2).1]; have:=dvs.len; simp; (first | lia | omega)) (gD c2) fun h2 hx=>?_
  exact eN R hR c2 y (S'.stayX hx) dvs fun s3 h3 as3 n3 y S3 p3=>q _ _ _ _ _ _ y S3 (p.trans p3) rfl
set_option tactic.hygienic true
theorem qC (hb:HB w O) (R:Snd w ρ O d r) {b:Stmt} {s:St} {k:Fl->St->Tr} {h:Heap} {n:Nat} {as:List Addr} {Q:Flow->Shared->Prop} (hR:Room A d) (y:(rx w.params r env.scope b s k).ok ρ post) (S:SR w ρ O G env h s as)
  (q:∀fl F s' h' as' n',(k fl s').ok ρ post->SR w ρ O G env h' s' as'->aM as as'->lN ρ as' fl F->Q F ⟨h',gs,dr,n',os⟩):wpAny (model pr w) A (exec b env) Q Er ⟨h,gs,dr,n,os⟩:=by
 induction b using Stmt.casesOn <;> try exact dD R hR y S q
 ·rename_i ts e pos
  have y:(Fw w.params r env.scope (be ts) ts e pos s k).ok ρ post:=y
  induction e1:be ts with
  | none=>rw [e1] at y; exact dD R hR y S q
  | some t =>
   rw [e1] at y
   have e2:=ba e1
   cases t <;> try exact dD R hR y S q
   ·rename_i o i p
    have y:(if dO e=true then Tr.fail else _).ok ρ post:=y
    by_cases hc:dO e=true
    ·rw [if_pos hc] at y; exact y.elim
    ·rw [if_neg hc] at y
     rw [Bool.not_eq_true] at hc
     refine aa e2 ?_
     refine wpAny_Assign_Subscript (R.E hR y S fun v V s' h' as' n' y S' p dv=>?_) (iY hc)
     refine R.E hR y S' fun ov OV s2 h2 as2 n2 y S2 p2 d2=>?_
     refine R.E hR y S2 fun iv IV s3 h3 as3 n3 y S3 p3 d3=>?_
     exact kB y S3 (d2.pre p3) d3 ((dv.pre p2).pre p3) fun s4 h4 n4 y S4=>q _ _ _ _ _ _ y S4 ((p.trans p2).trans p3) rfl
   ·rename_i elts c tp
    cases e with
    | Tuple es c2 p2 =>
     have y:(if iG (.Tuple es c2 p2)=true then lg w.params r env.scope elts es (.Tuple es c2 p2) s (fun s=>k .nx s) else i9 w.params r env.scope (.Assign ts (.Tuple es c2 p2) pos) s k:Tr).ok ρ post:=y
     by_cases hc:iG (.Tuple es c2 p2)=true
     ·rw [if_pos hc] at y
      refine aa e2 ?_
      exact tI R hR y S q
     ·rw [if_neg hc] at y
      exact dD R hR y S q
    | _=>exact dD R hR y S q
 ·rename_i tg it body els pos
  obtain ⟨x,e1,y1⟩:=af (o:=iX tg) y
  obtain ⟨px,rfl⟩:=iz e1
  obtain ⟨c,y2⟩:=aj y1
  simp only [Bool.and_eq_true,List.isEmpty_iff,Bool.not_eq_true'] at c
  obtain ⟨rfl,hs⟩:=c
  refine wpAny_For (R.E hR y2 S fun v V s' h' as' n' y S' p dv=>?_) (dH hs)
  have key:∀{s2:St} {as2:List Addr} {j:Nat},SR w ρ O G env h' s2 as2->aM as as2->Dn ρ as2 (.loc j) V->(cX (lstAt s2 (.loc j)) (fun zw=>lO r env.scope x body s2.ob.length k 40 { s2 with ob:=s2.ob++[.lit j 0] }) <|
   aT (tupAt s2 (.loc j)) fun zw=>lO r env.scope x body s2.ob.length k 40 { s2 with ob:=s2.ob++[.tit j 0] }).ok ρ post->wpAny (model pr w) A (pyIter V) (fun it s=>codeAny (model pr w) A (.forLoop (.Name x px) it body [] env) (fun r s'=>match r with | .ok f=>Q f s' | .error e=>cameBackBy (model pr w) A env Er e s') s) Er ⟨h',gs,dr,n',os⟩:=by
   intro s2 as2 j S2 p2 d2 y
   obtain ⟨a,ea,eV⟩:=id d2
   rcases aV y with ⟨vs,e,y⟩ | y
   ·obtain ⟨a',Vs,rfl,dvs,l⟩:=eA S2.hat e d2
    cases eV
    refine wpAny_pyIter_list (s:=⟨h',gs,dr,n',os⟩) l ?_
    refine kA R hR (as₀:=as) q y (S2.push _ ⟨a,aM.get ⟨_,rfl⟩ ea,_,Heap.get?_push_size _ rfl,rfl,rfl⟩) (p2.trans ⟨_,rfl⟩) ?_
    refine aa (Eq.symm S2.sz) ?_; exact aY
   ·obtain ⟨vs,e,y⟩:=af y
    obtain ⟨a',Vs,rfl,dvs,l⟩:=bD S2.hat e d2
    cases eV
    refine iter_tuple (s:=⟨h',gs,dr,n',os⟩) l ?_
    refine kA R hR (as₀:=as) q y (S2.push _ ⟨a,aM.get ⟨_,rfl⟩ ea,_,Heap.get?_push_size _ rfl,rfl,rfl⟩) (p2.trans ⟨_,rfl⟩) ?_
    refine aa (Eq.symm S2.sz) ?_; exact aY
  rcases mY hb y S'.sz dv with ⟨i,rfl,y⟩ | ⟨a,vs,rfl,y,F⟩
  ·exact key S' p dv y
  ·exact key (S'.tie (ao:=.fz (.tup vs)) a rfl (F _)) (p.trans ⟨_,rfl⟩) S'.lastD y
 ·rename_i t body els pos
  obtain ⟨c,y⟩:=aj y
  rw [List.isEmpty_iff] at c
  subst c
  exact wpAny_While (pT R hR q y S .refl)
set_option tactic.hygienic false
end
theorem nT {w:World} {ρ:Rho} {O:Opq} {hk:Hk} {r0:Nat} (hb:HB w O) (h2:2<=r0) (H:ay w ρ O hk r0):∀n,Snd w ρ O (n + r0) (fJ w.params hk n)
 | 0=>rM
 | n + 1=>by
  have R:=nT hb h2 H n
  have l:n + r0<=n + 1 + r0:=by (first | decide | lia | omega)
  have e:n + r0 + 1=n + 1 + r0:=by (first | decide | lia | omega)
  exact ⟨fun hR y S q=>pI R hb (by (first | decide | lia | omega)) (by rw [e]; exact hR) y S q,fun hR y S hw q=>qj R (by (first | decide | lia | omega)) (by rw [e]; exact hR) y S hw q,fun hR y S q=>qC hb R (hR.le l) y S q,
   fun hR y S df da q=>qM (d:=n + r0) hb (H.le (by (first | decide | lia | omega))) R (by rw [e]; exact hR) y S df da q⟩
end
noncomputable def GK (t:Tot) (k:Nat) (x y z:Int):Int:=match k with
 | 20=>bh t x 12 | 21=>bh t x 13 | 22=>bh t x 14 | 23=>bh t x 15 | 24=>bh t x 16 | 25=>bh t x 17 | _=>ff k x y z
noncomputable def gw (t:Tot) (a:List Int):Rho:=⟨fun i=>(t.l++a).getD i 0,GK t,fun zw=>[]⟩
noncomputable def GR (e:IE):List AO:=[.tup [.int (.fn 22 e (.c 0) (.c 0)),.int (.fn 23 e (.c 0) (.c 0))],.tup [.int (.fn 24 e (.c 0) (.c 0)),.int (.fn 25 e (.c 0) (.c 0))],.tup [.int (.fn 20 e (.c 0) (.c 0)),.int (.fn 21 e (.c 0) (.c 0)),.loc 0,.loc 1]]
theorem Ae (e:IE):aN [0,1,2] ⟨[],[],I2,[]⟩ ⟨[],[],GR e,[]⟩=some [.ie (.v 14) (.fn 22 e (.c 0) (.c 0)),.ie (.v 15) (.fn 23 e (.c 0) (.c 0)),.ie (.v 16) (.fn 24 e (.c 0) (.c 0)),.ie (.v 17) (.fn 25 e (.c 0) (.c 0)),.ie (.v 12) (.fn 20 e (.c 0) (.c 0)),.ie (.v 13) (.fn 21 e (.c 0) (.c 0))]:=by kernel_rfl
theorem Mk {w:World} {ρ:Rho} {O:Opq}:ay w ρ O aA 0:=ay.no
section
variable {w:World} {A:Around} {gs:Array GenState} {dr:Drawn} {os:OsState} {h:Heap} {n:Nat} {t:Tot}
noncomputable def OA (h:Heap):Opq:=⟨h.get?,fun zw zw=>False,fun zw h=>h.elim,fun zw h=>h.elim⟩
theorem Ar (W:Wd w h) {ρ:Rho} {xs:List Addr} {x:Addr} {e:Int} {tk:Tok} {ie:IE} (T:All2 (fun x u=>aO (aB t [e]) xs h.get? x u) xs (xf 0)) (hx:xs[3]? = some x) (h0:t.s0 < 2 ^ 100) (h1:t.r0 < 2 ^ 100) (hρ:ρ.f=GK t) (he:ie.den ρ=e) (R:Room A 40) {Q:Value->Shared->Prop} {E:Value->Shared->Prop}
  (q:∀V h' n' ys,Co w ρ (OA h) h.get? h' (GR ie) [] ys->Dn ρ ys (.loc 2) V->Q V ⟨h',gs,dr,n',os⟩):wpAny (model pr w) A (call (.ref 616) [.ref x,.int e tk]) Q E ⟨h,gs,dr,n,os⟩:=by
 have C0:Co w (aB t [e]) (OA h) h.get? h ((xf 0).map .fz) [] xs:=by
  refine Co.all W (fun zw zw e=>e) ?_
  revert T
  generalize (xf 0)=us
  intro T
  have key:∀{ys:List Addr} {us:List AO},All2 (fun x u=>aO (aB t [e]) xs h.get? x u) ys us->All2 (fun a o=>aC (aB t [e]) (OA h) xs h a o/\o.own=false) ys (us.map .fz):=by
   intro ys us x
   induction x with
   | nil=>exact .nil
   | cons p _ ih=>exact .cons ⟨p,rfl⟩ ih
  exact key T
 refine DL (ρ':=⟨fun k=>if k < 12 then (aB t [e]).v k else bh t e k,ff,fun zw=>[]⟩) (v:=.loc 2) (r0:=0) Mk (AR w.params) R C0 (.cons ⟨x,hx,rfl⟩ (.cons ⟨tk,rfl⟩ .nil)) ?_ fun V h' ys n' C dv=>?_
 ·refine VC.fill (b:=12) (fun i hi=>?_) DY (oB h0 h1) fun k hk=>?_
  ·show _=if i < 12 then _ else _; exact aa (if_pos hi) rfl
  ·show (if k < 12 then _ else _)=_; refine aa (if_neg (by (first | lia | omega))) ?_; rfl
 ·have C2:=Co.re (s:=⟨[],[],I2,[]⟩) (s':=⟨[],[],GR ie,[]⟩) (ρ':=ρ) C [0,1,2] (Ae ie) (by
   simp only [bE,No,CQ,dC,hρ,he]
   refine ⟨?_,?_,?_,?_,?_,?_⟩ <;> rfl)
  exact q V h' n' _ C2 (bS (mp:=eX [0,1,2]) (u:=.loc 2) (l:=[]) (dw rfl) (by kernel_rfl) trivial dv)
end
noncomputable def E4 (ob:List AO) (m:Nat):Bool:=(cH (eX [m,m + 1,m + 2,m + 3]) ob [m,m + 1,m + 2,m + 3] (xf 0)).any (jb (AN fun i j=>i == j && Nat.ble j 10))
noncomputable def L3 (args:List AV):Option (Nat×IE):=(d9 args).bind fun p=>aq p.1.l? p.2.i?
theorem Ee {args:List AV} {p:Nat×IE} (h:L3 args=some p):args = [.loc p.1,.int p.2]:=by
 apply bc;intro ng
 obtain ⟨q,e1,e⟩:=az h
 apply ng;clear ng
 exact aa (cq e1) (aa (bN (ah e).1) (aa (cP (ah e).2) rfl))
noncomputable def L8:Hk:=fun a args ob=>(L3 args).bind fun p=>if a == 616 && Nat.ble 3 p.1 && E4 ob (p.1 - 3) then some ([],.loc (2 + ob.length),ob++(GR p.2).map (AO.shift ob.length)) else none
noncomputable def F5:Hk:=fun a args ob=>match MG a args ob with | some r=>some r | none=>L8 a args ob
theorem ay.or {w:World} {ρ:Rho} {O:Opq} {k1 k2:Hk} {d:Nat} (h1:ay w ρ O k1 d) (h2:ay w ρ O k2 d):ay w ρ O (fun a args ob=>match k1 a args ob with | some r=>some r | none=>k2 a args ob) d:=by
 intro a args ob cs v ob' e
 dsimp only at e
 induction er:k1 a args ob with
 | some r=>rw [er] at e; rw [aF e] at er; exact h1 er
 | none=>rw [er] at e; exact h2 e
theorem KO {l a b:List Int} {i:Nat} (h:i < l.length):(l++a).getD i 0=(l++b).getD i 0:=by
 exact aa (List.getD_eq_getElem?_getD) (aa (List.getD_eq_getElem?_getD) (aa (List.getElem?_append_left h) (aa (List.getElem?_append_left h) rfl)))
theorem B0 {w:World} {O:Opq} {t:Tot} {a:List Int} (h0:t.s0 < 2 ^ 100) (h1:t.r0 < 2 ^ 100):ay w (gw t a) O L8 40:=by
 intro f args ob cs v ob' e hcs A gs dr os G h pc n as Us Q Er R S da q
 apply bc;intro ng
 obtain ⟨p,ea,e⟩:=az e
 obtain ⟨hc,e⟩:=cU e
 rw [Ee ea] at da
 cases e
 obtain ⟨U1,U2,hU,⟨x,ex,hx⟩,tk,ht⟩:=da.two
 obtain ⟨l,e1,gd⟩:=cw (au hc)
 apply ng;clear ng
 have i3:p.1 - 3 + 3=p.1:=Nat.sub_add_cancel (Nat.le_of_ble_eq_true (au (ag hc)))
 have T:=jy (ρ':=aB t [p.2.den (gw t a)]) (dw rfl) S.sz (fun i o a e e'=>(S.ob i o a e e').1) e1 (hQ (fun i j z=>(congrArg (gw t a).v (aD (ag z))).trans (show (gw t a).v j=(aB t [p.2.den (gw t a)]).v j from KO (l:=t.l) (Nat.lt_succ_of_le (Nat.le_of_ble_eq_true (au z))))) gd) rfl
 refine aa hU (aa hx (aa ht (aa (aD (ag (ag hc))) ?_)))
 refine Ar (ρ:=gw t a) (ie:=p.2) (e:=p.2.den (gw t a)) S.wd T (congrArg some ((congrArg (as.getD · 0) i3).trans (bG ex))) h0 h1 rfl rfl R fun V h' n' ys N dv=>?_
 have M:=S.more N rfl
 have z:=dv.shift (as:=as)
 rw [S.sz] at M z
 exact q V h' _ n' M ⟨_,rfl⟩ z
noncomputable def xd (k:Nat):List AO:=[.tup [.int (.v 16),.int (.v 17)],.opq k,.ns [(S' "ratio",.loc 0),(S' "order",.int (.v 15)),(S' "sign",.int (.v 14)),(S' "shift",.int (.c 0)),(S' "items",.loc 1),(S' "depth",.int (.v 1)),(S' "height",.int (.v 0)),(S' "width",.int (.v 13)),(S' "kind",.int (.c 2))],.inst 389 2,.tup [.int (.v 18),.int (.v 19)],.tup [.loc 3,.loc 4]]
noncomputable def Iv (P:Params):VC:=(sx P F5 40 673 [.loc 0,.int (.v 11),.int (.v 12)] [.opq 1]).vcA [(1,0)] (.rt (.loc 5)) ⟨[],[],xd 1,[]⟩
noncomputable def Hd (P:Params):VC:=(sx P F5 40 673 [.loc 0,.int (.v 11),.int (.v 12)] [.opq 2]).vcA [(1,0)] (.rt (.loc 5)) ⟨[],[],xd 2,[]⟩
noncomputable def H1 (P:Params):VC:=(sx P F5 40 673 [.loc 0] [.opq 1]).vcA [(1,0)] (.rt (.loc 5)) ⟨[],[],xd 1,[]⟩
noncomputable def HI (P:Params):VC:=(sx P F5 40 673 [.loc 0] [.opq 2]).vcA [(1,0)] (.rt (.loc 5)) ⟨[],[],xd 2,[]⟩
noncomputable def inr (e:IE) (z:VC):VC:=.br (.le (.c (-1073741823)) e) (.br (.le e (.c 1073741823)) z .fail) .fail
noncomputable def CO (k:Nat) (w:IE):IE:=.fn k (.sub w (.v 2)) (.c 0) (.c 0)
noncomputable def FY (em:Bool) (x:IE):IE:=match em with | true=>.c 0 | false=>x
noncomputable def wB (em:Bool) (w:IE):VC:=inr (.v 0) (inr (.v 1) (.ok [.ie (CO 22 w) (.v 16),.ie (CO 23 w) (.v 17),.ie (CO 21 w) (.v 15),.ie (CO 20 w) (.v 14),.ie (.c 0) (.c 0),.ie (.v 1) (.v 1),.ie (.v 0) (.v 0),.ie w (.v 13),.ie (.c 2) (.c 2),.ie (FY em (CO 24 w)) (.v 18),.ie (FY em (CO 25 w)) (.v 19)]))
noncomputable def Jz (em:Bool):VC:=.br (.eq (.v 11) (.c 0)) (inr (.v 12) (wB em (.v 12))) (.br (.eq (.v 11) (.c 1)) (inr (.v 12) (inr (.add (.v 2) (.v 12)) (wB em (.add (.v 2) (.v 12))))) .fail)
noncomputable def A3 (em:Bool):VC:=inr (.add (.v 2) (.c 0)) (wB em (.add (.v 2) (.c 0)))
theorem yi (P:Params):Iv P=Jz false:=by kernel_rfl
theorem v7 (P:Params):Hd P=Jz true:=by kernel_rfl
theorem vA (P:Params):H1 P=A3 false:=by kernel_rfl
theorem vu (P:Params):HI P=A3 true:=by kernel_rfl
structure HpOk (t:Tot) (mode am:Int):Prop where
 md:mode=0\/mode=1
 ab : -1073741823<=am/\am<=1073741823
 wd:mode=1->-1073741823<=t.n + am/\t.n + am<=1073741823
 H : -1073741823<=t.H/\t.H<=1073741823
 D : -1073741823<=t.D/\t.D<=1073741823
 s0:t.s0 < 2 ^ 100
 r0:t.r0 < 2 ^ 100
noncomputable def bJ (t:Tot) (mode am:Int):Int:=if mode=0 then am else t.n + am
noncomputable def mG (t:Tot) (em:Bool) (mode am:Int):List Int:=[t.H,t.D,t.n,t.s0,t.s1,t.s2,t.s3,t.r0,t.r1,t.r2,t.r3,mode,am,bJ t mode am,
 bh t (bJ t mode am - t.n) 12,bh t (bJ t mode am - t.n) 13,bh t (bJ t mode am - t.n) 14,bh t (bJ t mode am - t.n) 15,if em then 0 else bh t (bJ t mode am - t.n) 16,if em then 0 else bh t (bJ t mode am - t.n) 17]
noncomputable def gj (l:List Int):Rho:=⟨fun i=>l.getD i 0,ff,fun zw=>[]⟩
section
variable {t:Tot} {mode am:Int}
theorem hH {i:Nat} {a:List Int} (hi:i < 11):(gw t a).v i=(aB t []).v i:=by
 show (t.l++a).getD i 0=(t.l++[]).getD i 0
 unfold List.getD
 have:i < t.l.length:=by simpa [Tot.l] using hi
 rw [List.getElem?_append_left this,List.append_nil]
theorem gM {ρ ρ':Rho} {e:IE} {z:VC} (h : -1073741823<=e.den ρ/\e.den ρ<=1073741823) (k:z.den ρ ρ'):(inr e z).den ρ ρ':=⟨fun zw=>⟨fun zw=>k,fun n=>n h.2⟩,fun n=>n h.1⟩
theorem mD {em:Bool} {W:IE} {a:List Int} (o:HpOk t mode am) (hW:W.den (gw t a)=bJ t mode am):(wB em W).den (gw t a) (gj (mG t em mode am)):=by
 have F:∀k,GK t k (W.den (gw t a) - t.n) 0 0=GK t k (bJ t mode am - t.n) 0 0:=fun k=>by exact aa hW rfl
 refine gM o.H (gM o.D ⟨F 22,F 23,F 21,F 20,rfl,rfl,rfl,hW,rfl,?_,?_⟩) <;> induction em using Bool.casesOn
 ·exact F 24
 ·rfl
 ·exact F 25
 ·rfl
theorem uy (o:HpOk t mode am) (em:Bool):(Jz em).den (gw t [mode,am]) (gj (mG t em mode am)) :=
 ⟨fun h=>gM o.ab (mD o (if_pos h).symm),fun h=>⟨fun h1=>gM o.ab (gM (o.wd h1) (mD o (if_neg h).symm)),fun h1=>o.md.elim h h1⟩⟩
theorem pg (o:HpOk t 1 0) (em:Bool):(A3 em).den (gw t [1,0]) (gj (mG t em 1 0)):=gM (o.wd rfl) (mD o rfl)
variable {w:World} {A:Around} {gs:Array GenState} {dr:Drawn} {os:OsState} {g:Gr} {F:List Addr} {h:Heap} {n:Nat} {a:Addr} {Vs:List Value} {nds:List Nd}
theorem pj (Fo:aU w g F) (It:Items g F a Vs nds) (o:HpOk (ad nds) mode am):ay w (gw (ad nds) [mode,am]) (OH g a Vs) F5 41 :=
 ay.or (Aa Fo It fun i hi=>hH hi) (ay.le (d:=40) (B0 o.s0 o.r0) (by (first | decide | lia | omega)))
theorem kz (kg:∀a o,g a=some o->h.get? a=some o) (It:Items g F a Vs nds) (W:Wd w h) {ρ:Rho}:(Vs≠[]->Co w ρ (OH g a Vs) h.get? h [.opq 1] [] [a])/\(Vs = []->Co w ρ (OH g a Vs) h.get? h [.opq 2] [] [a]):=by
 apply bc;intro ng
 obtain ⟨o,e,_⟩:=id It.list
 apply ng;clear ng
 exact ⟨fun v=>Co.all W kg (.cons ⟨⟨⟨o,e⟩,It.list,rfl,.inl ⟨rfl,v⟩⟩,rfl⟩ .nil),fun v=>Co.all W kg (.cons ⟨⟨⟨o,e⟩,It.list,rfl,.inr ⟨rfl,v⟩⟩,rfl⟩ .nil)⟩
theorem pk {k:Nat} {h':Heap} {xs:List Addr} {ρ:Rho} {G:Gr} (C:Co w ρ (OH g a Vs) G h' (xd k) [] xs):xs[1]? = some a:=by
 have l:1 < xs.length:=by have z:xs.length=6:=C.sz; refine aa z ?_; decide
 have e:=List.getElem?_eq_getElem l
 exact e.trans (congrArg some (C.ob 1 (.opq k) _ rfl e).1.2.2.1)
theorem zM (It:Items g F a Vs nds):(Vs = []/\nds.isEmpty=true)\/(Vs≠[]/\nds.isEmpty=false):=by
 have l:=It.nodes.len
 induction nds using List.casesOn with
 | nil=>exact .inl ⟨List.length_eq_zero_iff.mp l,rfl⟩
 | cons=>exact .inr ⟨fun e=>(by rw [e] at l; cases l),rfl⟩
theorem Cm (W:Wd w h) (kg:∀a o,g a=some o->h.get? a=some o) (Fo:aU w g F) (It:Items g F a Vs nds) (o:HpOk (ad nds) mode am) (R:Room A 81) {tk tk':Tok} {Q:Value->Shared->Prop} {E:Value->Shared->Prop}
  (q:∀V h' n' xs k,Co w (gj (mG (ad nds) nds.isEmpty mode am)) (OH g a Vs) h.get? h' (xd k) [] xs->xs[1]? = some a->Dn (gj (mG (ad nds) nds.isEmpty mode am)) xs (.loc 5) V->Q V ⟨h',gs,dr,n',os⟩) :
  wpAny (model pr w) A (call (.ref 673) [.ref a,.int mode tk,.int am tk']) Q E ⟨h,gs,dr,n,os⟩:=by
 rcases zM It with ⟨hv,em⟩ | ⟨hv,em⟩ <;> rw [em] at q
 ·exact DL (v:=.loc 5) (pj Fo It o) (v7 w.params) R ((kz kg It W).2 hv) (.cons ⟨a,rfl,rfl⟩ (.cons ⟨tk,rfl⟩ (.cons ⟨tk',rfl⟩ .nil))) (uy o true) fun V h' xs n' C dv=>q V h' n' xs 2 C (pk C) dv
 ·exact DL (v:=.loc 5) (pj Fo It o) (yi w.params) R ((kz kg It W).1 hv) (.cons ⟨a,rfl,rfl⟩ (.cons ⟨tk,rfl⟩ (.cons ⟨tk',rfl⟩ .nil))) (uy o false) fun V h' xs n' C dv=>q V h' n' xs 1 C (pk C) dv
theorem Ac (W:Wd w h) (kg:∀a o,g a=some o->h.get? a=some o) (Fo:aU w g F) (It:Items g F a Vs nds) (o:HpOk (ad nds) 1 0) (R:Room A 81) {Q:Value->Shared->Prop} {E:Value->Shared->Prop}
  (q:∀V h' n' xs k,Co w (gj (mG (ad nds) nds.isEmpty 1 0)) (OH g a Vs) h.get? h' (xd k) [] xs->xs[1]? = some a->Dn (gj (mG (ad nds) nds.isEmpty 1 0)) xs (.loc 5) V->Q V ⟨h',gs,dr,n',os⟩) :
  wpAny (model pr w) A (call (.ref 673) [.ref a]) Q E ⟨h,gs,dr,n,os⟩:=by
 rcases zM It with ⟨hv,em⟩ | ⟨hv,em⟩ <;> rw [em] at q
 ·exact DL (v:=.loc 5) (pj Fo It o) (vu w.params) R ((kz kg It W).2 hv) (.cons ⟨a,rfl,rfl⟩ .nil) (pg o true) fun V h' xs n' C dv=>q V h' n' xs 2 C (pk C) dv
 ·exact DL (v:=.loc 5) (pj Fo It o) (vA w.params) R ((kz kg It W).1 hv) (.cons ⟨a,rfl,rfl⟩ .nil) (pg o false) fun V h' xs n' C dv=>q V h' n' xs 1 C (pk C) dv
end
theorem Tot.ext' {a b:Tot} (h:a.H=b.H/\a.D=b.D/\a.n=b.n/\a.s0=b.s0/\a.s1=b.s1/\a.s2=b.s2/\a.s3=b.s3/\a.r0=b.r0/\a.r1=b.r1/\a.r2=b.r2/\a.r3=b.r3):a=b:=by
 obtain ⟨a1,a2,a3,a4,a5,a6,a7,a8,a9,a10,a11⟩:=a
 obtain ⟨b1,b2,b3,b4,b5,b6,b7,b8,b9,b10,b11⟩:=b
 obtain ⟨h1,h2,h3,h4,h5,h6,h7,h8,h9,h10,h11⟩:=h
 dsimp only at *
 subst h1 h2 h3 h4 h5 h6 h7 h8 h9 h10 h11
 rfl
theorem rJ (a b c:Int):max (max a b) c=max (max a c) b:=by rw [Int.max_assoc,Int.max_comm b,<- Int.max_assoc]
theorem Tot.add_comm (t:Tot) (a b:Nd):(t.add a).add b=(t.add b).add a :=
 have r:=Int.add_right_comm
 Tot.ext' ⟨rJ _ _ _,rJ _ _ _,r _ _ _,r _ _ _,r _ _ _,r _ _ _,r _ _ _,r _ _ _,r _ _ _,r _ _ _,r _ _ _⟩
theorem nF {l m:List Nd} (p:l.Perm m):∀t:Tot,l.foldl Tot.add t=m.foldl Tot.add t:=by
 induction p with
 | nil=>intro t; rfl
 | cons x _ ih=>intro t; exact ih _
 | swap x y l=>intro t; rw [List.foldl_cons,List.foldl_cons,List.foldl_cons,List.foldl_cons,Tot.add_comm]
 | trans _ _ ih1 ih2=>intro t; exact (ih1 t).trans (ih2 t)
noncomputable def gm (f:Nd->Int):List Nd->Int->Int
 | [],x=>x
 | a::l,x=>gm f l (max x (f a))
theorem kj {f:Nd->Int}:∀(l:List Nd) (x:Int),x<=gm f l x
 | [],x=>Int.le_refl _
 | a::l,x=>Int.le_trans (Int.le_max_left _ _) (kj l _)
theorem lq {f:Nd->Int}:∀(l:List Nd) (x y:Int),gm f l (max x y)=max x (gm f l y)
 | [],x,y=>rfl
 | a::l,x,y=>by
  show gm f l (max (max x y) (f a))=max x (gm f l (max y (f a)))
  rw [Int.max_assoc,lq l]
noncomputable def aE (f:Nd->Int) (l:List Nd):Int:=(l.map f).sum
theorem iZ:∀(l:List Nd) (t:Tot),l.foldl Tot.add t=⟨gm Nd.h l t.H,gm Nd.d l t.D,t.n + aE Nd.w l,t.s0 + aE (Nd.st · 0) l,t.s1 + aE (Nd.st · 1) l,t.s2 + aE (Nd.st · 2) l,t.s3 + aE (Nd.st · 3) l,
  t.r0 + aE (Nd.sh · 0) l,t.r1 + aE (Nd.sh · 1) l,t.r2 + aE (Nd.sh · 2) l,t.r3 + aE (Nd.sh · 3) l⟩
 | [],t =>
  have z:∀x:Int,x=x + aE Nd.w []:=fun x=>(Int.add_zero x).symm
  Tot.ext' ⟨rfl,rfl,z _,z _,z _,z _,z _,z _,z _,z _,z _⟩
 | a::l,t=>by
  rw [List.foldl_cons,iZ l]
  have s:∀(f:Nd->Int) (x:Int),x + f a + aE f l=x + aE f (a::l):=fun f x=>by unfold aE; rw [List.map_cons,List.sum_cons,Int.add_assoc]
  exact Tot.ext' ⟨rfl,rfl,s Nd.w t.n,s (Nd.st · 0) t.s0,s (Nd.st · 1) t.s1,s (Nd.st · 2) t.s2,s (Nd.st · 3) t.s3,s (Nd.sh · 0) t.r0,s (Nd.sh · 1) t.r1,s (Nd.sh · 2) t.r2,s (Nd.sh · 3) t.r3⟩
theorem cM (l:List Nd):ad l=⟨gm Nd.h l 0,gm Nd.d l 0,aE Nd.w l,aE (Nd.st · 0) l,aE (Nd.st · 1) l,aE (Nd.st · 2) l,aE (Nd.st · 3) l,aE (Nd.sh · 0) l,aE (Nd.sh · 1) l,aE (Nd.sh · 2) l,aE (Nd.sh · 3) l⟩:=by
 unfold ad
 rw [iZ]
 simp [Tot.zero]
theorem iV {f:Nd->Int} (l m:List Nd):aE f (l++m)=aE f l + aE f m:=by simp [aE]
def Nd.noG (nd:Nd):Prop:=nd.k≠.skp
theorem tn {nd:Nd} (h:nd.noG) (k:Int):nd.st k=0/\nd.sh k=0:=by
 obtain ⟨k',a⟩:=nd
 cases k' <;> first | exact ⟨rfl,rfl⟩ | exact absurd rfl h
theorem eP {f:Nd->Int}:∀{l:List Nd},(∀a∈l,f a=0)->aE f l=0
 | [],_=>rfl
 | a::l,h=>by
  have:=eP (f:=f) (l:=l) fun b m=>h b (.tail _ m)
  simp only [aE,List.map_cons,List.sum_cons] at this ⊢
  refine aa (h a (.head _)) (aa this ?_); rfl
noncomputable def dM (run:List Nd):Nd:=⟨.pck,[(ad run).n,(ad run).H,(ad run).D,0]⟩
theorem sP {run:List Nd} (h:∀a∈run,a.noG) {t:Tot} (h0:0<=t.H) (h1:0<=t.D):run.foldl Tot.add t=t.add (dM run):=by
 have st:∀k,aE (Nd.st · k) run=0:=fun k=>eP fun a m=>(tn (h a m) k).1
 have sh:∀k,aE (Nd.sh · k) run=0:=fun k=>eP fun a m=>(tn (h a m) k).2
 have e:∀f x,0<=x->gm f run x=max x (gm f run 0):=fun f x hx=>by rw [<- lq,Int.max_eq_left hx]
 have H:(dM run).h=gm Nd.h run 0:=(Int.sub_zero _).trans (congrArg Tot.H (cM run))
 have D:(dM run).d=gm Nd.d run 0:=(Int.add_zero _).trans (congrArg Tot.D (cM run))
 rw [iZ]
 exact Tot.ext' ⟨(e _ _ h0).trans (congrArg _ H.symm),(e _ _ h1).trans (congrArg _ D.symm),congrArg (t.n + ·) (congrArg Tot.n (cM run)).symm,
  congrArg (t.s0 + ·) (st 0),congrArg (t.s1 + ·) (st 1),congrArg (t.s2 + ·) (st 2),congrArg (t.s3 + ·) (st 3),congrArg (t.r0 + ·) (sh 0),congrArg (t.r1 + ·) (sh 1),congrArg (t.r2 + ·) (sh 2),congrArg (t.r3 + ·) (sh 3)⟩
theorem pY {pre run post:List Nd} (h:∀a∈run,a.noG):ad (pre++[dM run]++post)=ad (pre++run++post):=by
 have h0:0<=(ad pre).H:=by rw [cM]; exact kj _ _
 have h1:0<=(ad pre).D:=by rw [cM]; exact kj _ _
 unfold ad at *
 refine aa List.foldl_append (aa List.foldl_append (aa List.foldl_append (aa List.foldl_append (aa (sP h h0 h1) ?_)))); rfl
noncomputable def pos (B:Bx):Int->Int->List Nd->List Int
 | _,_,[]=>[]
 | x,f,nd::r=>(x + nd.w + zN (B.p * (f + nd.fl B)) B.q)::pos B (x + nd.w) (f + nd.fl B) r
noncomputable def av (B:Bx) (nds:List Nd):List Int:=0::pos B 0 0 nds
theorem cK {f:Nd->Int} {a:Nd} {l:List Nd}:aE f (a::l)=f a + aE f l:=by unfold aE; exact aa List.map_cons (aa List.sum_cons rfl)
theorem nW {B:Bx}:∀(l:List Nd) (t:Pl),l.foldl (Pl.add B) t=⟨t.fx + aE Nd.w l,t.fl + aE (Nd.fl B) l,t.out++pos B t.fx t.fl l⟩
 | [],t=>by rw [List.foldl_nil]; show t=⟨t.fx + 0,t.fl + 0,t.out++[]⟩; rw [Int.add_zero,Int.add_zero,List.append_nil]
 | a::l,t=>by
  rw [List.foldl_cons,nW l,cK,cK,<- Int.add_assoc,<- Int.add_assoc]
  exact congrArg (Pl.mk _ _) (List.append_assoc _ _ _)
theorem cr {B:Bx} (l:List Nd):(bw B l).out=av B l:=by
 unfold bw
 rw [nW]
 simp [Pl.zero,av]
theorem f9 {B:Bx}:∀(l:List Nd) (x f:Int),(pos B x f l).length=l.length
 | [],_,_=>rfl
 | a::l,x,f=>by simp [pos,f9 l]
theorem ip {B:Bx}:∀(l m:List Nd) (x f:Int),pos B x f (l++m)=pos B x f l++pos B (x + aE Nd.w l) (f + aE (Nd.fl B) l) m
 | [],m,x,f=>by show pos B x f m=pos B (x + 0) (f + 0) m; rw [Int.add_zero,Int.add_zero]
 | a::l,m,x,f=>by
  rw [List.cons_append,cK,cK,<- Int.add_assoc,<- Int.add_assoc]
  exact congrArg (_ :: ·) (ip l m _ _)
noncomputable def uU (B:Bx) (x f:Int):Int:=x + zN (B.p * f) B.q
theorem kL {B:Bx}:∀(l m:List Nd) (x f:Int),((uU B x f)::pos B x f (l++m)).drop l.length=uU B (x + aE Nd.w l) (f + aE (Nd.fl B) l)::pos B (x + aE Nd.w l) (f + aE (Nd.fl B) l) m
 | [],m,x,f=>by show _=uU B (x + 0) (f + 0)::pos B (x + 0) (f + 0) m; rw [Int.add_zero,Int.add_zero]; rfl
 | a::l,m,x,f=>by
  rw [cK,cK,<- Int.add_assoc,<- Int.add_assoc]
  exact kL (B:=B) l m (x + a.w) (f + a.fl B)
theorem KU {q:Int} (h:1<=q):zN 0 q=0:=by
 unfold zN
 refine aa (if_neg (by (first | decide | lia | omega))) ?_
 have:(2 * 0 + q) / (2 * q)=0:=Int.ediv_eq_zero_of_lt (by (first | decide | lia | omega)) (by (first | decide | lia | omega))
 exact this
theorem MV {B:Bx} (h:B.ok):uU B 0 0=0:=by
 unfold uU
 rw [Int.mul_zero,KU h.q0]; rfl
theorem fB {B:Bx} (h:B.ok) (l m:List Nd):(av B (l++m)).drop l.length=uU B (aE Nd.w l) (aE (Nd.fl B) l)::pos B (aE Nd.w l) (aE (Nd.fl B) l) m:=by
 have:=kL (B:=B) l m 0 0
 rw [MV h,Int.zero_add,Int.zero_add] at this
 exact this
theorem mx {B:Bx} (l m:List Nd):(av B (l++m)).take (l.length + 1)=0::pos B 0 0 l:=by
 unfold av
 rw [List.take_succ_cons,ip,List.take_left' (f9 l 0 0)]
theorem mM {B:Bx} {nd:Nd} (h:nd.noG):nd.fl B=0:=by
 obtain ⟨k',a⟩:=nd
 cases k' <;> first | rfl | exact absurd rfl h
theorem mc {B:Bx} (h:B.ok) {pre run post:List Nd} (hr:∀a∈run,a.noG) :
  av B (pre++[dM run]++post)=(av B (pre++run++post)).take (pre.length + 1)++(av B (pre++run++post)).drop (pre.length + run.length):=by
 have fz:aE (Nd.fl B) run=0:=eP fun a m=>mM (hr a m)
 have w:(dM run).w=aE Nd.w run:=by show (ad run).n=_; rw [cM]
 have f:(dM run).fl B=0:=rfl
 rw [show pre++run++post=pre++(run++post) by simp,mx,show pre++(run++post)=(pre++run)++post by simp,show pre.length + run.length=(pre++run).length by simp,fB h,iV,iV,fz,Int.add_zero]
 unfold av
 rw [List.append_assoc,ip,Int.zero_add,Int.zero_add]
 simp only [List.singleton_append,pos,w,f,Int.add_zero,List.cons_append]
 rfl
theorem oN {B:Bx}:∀(run:List Nd),(∀a∈run,a.noG)->∀(x f y:Int),(pos ⟨0,0,0,1⟩ y 0 run).map (uU B x f + ·)=pos B (x + y) f run
 | [],_,_,_,_=>rfl
 | a::l,hr,x,f,y=>by
  have z:a.fl ⟨0,0,0,1⟩=0:=mM (hr a (.head _))
  have z':a.fl B=0:=mM (hr a (.head _))
  simp only [pos,List.map_cons,z,z',Int.add_zero]
  refine aa (oN (B:=B) l (fun b m=>hr b (.tail _ m)) x f (y + a.w)) ?_
  have e0:zN ((0:Int) * 0) 1=0:=rfl
  refine aa e0 (aa (show x + (y + a.w)=x + y + a.w by (first | decide | lia | omega)) ?_)
  congr 1
  unfold uU; (first | decide | lia | omega)
theorem q7 {B:Bx} (h:B.ok) {pre run post:List Nd} (hr:∀a∈run,a.noG) :
  (av ⟨0,0,0,1⟩ run).map (((av B (pre++run++post)).getD pre.length 0) + ·)=((av B (pre++run++post)).drop pre.length).take (run.length + 1):=by
 have d:=fB h pre (run++post)
 rw [<- List.append_assoc] at d
 have g:(av B (pre++run++post)).getD pre.length 0=uU B (aE Nd.w pre) (aE (Nd.fl B) pre):=by
  have:=congrArg (fun l=>l.getD 0 0) d
  simp only [List.getD_cons_zero] at this
  refine aa (Eq.symm this) ?_
  simp [List.getD,List.getElem?_drop]
 rw [g,d,ip,List.take_succ_cons,List.take_left' (f9 run _ _)]
 unfold av
 rw [List.map_cons,oN run hr,Int.add_zero,Int.add_zero]
theorem fE {B:Bx} (h:B.ok) (l:List Nd):(av B l).getLast? = some (uU B (aE Nd.w l) (aE (Nd.fl B) l)):=by
 have d:=fB h l []
 rw [List.append_nil] at d
 have:(av B l).length=l.length + 1:=by simp [av,f9]
 rw [List.getLast?_eq_getElem?,this,Nat.add_sub_cancel]
 have e:=congrArg (fun l=>l[0]?) d
 simpa [List.getElem?_drop] using e
noncomputable def ON:Opq:=⟨fun zw=>none,fun zw zw=>False,fun zw h=>h.elim,fun zw h=>h.elim⟩
noncomputable def G1 (h:Heap) (x:Addr):Gr:=fun b=>if b=x then none else h.get? b
noncomputable def NH (P:Params):VC:=(sx P aA 40 857 [.loc 0,.int (.v 2)] [.lst [.int (.v 0),.int (.v 1)]]).vc [0] (.rt (.int (.v 5))) ⟨[],[],[.lst [.int (.v 3),.int (.v 4)]],[]⟩
noncomputable def Ne (P:Params) (hk:Hk):VC:=(sx P hk 40 864 [.loc 0] [.lst [.int (.v 0),.int (.v 1)]]).vc [0] (.rt (.int (.v 5))) ⟨[],[],[.lst [.int (.v 3),.int (.v 4)]],[]⟩
noncomputable def lI (ob:List AO) (i:Nat):Option (IE×IE):=((ob[i]?).bind AO.lst?).bind fun l=>(d9 l).bind fun p=>aq p.1.i? p.2.i?
noncomputable def fX:Hk:=fun a args ob=>(d9 args).bind fun p=>p.1.l?.bind fun i=>p.2.i?.bind fun m=>(lI ob i).bind fun x =>
 if a == 857 then some ([.lt (.c 0) m,.lt m (.c 1000000),.le (.c 0) x.2,.lt x.2 (.c 1000000)],.int (.fn 30 x.1 x.2 m),ob.set i (.lst [.int (.fn 31 x.1 x.2 m),.int (.add x.2 (.c 1))])) else none
theorem Ci (P:Params):NH P=VC.br (CE.eq (IE.v 0) (IE.c 0)) (VC.req (CE.mulok (IE.mul (IE.c 7) (IE.add (IE.v 1) (IE.c 1))) (IE.add (IE.v 1) (IE.c 1))) (VC.req (CE.lt (IE.c 0) (IE.v 2)) (VC.ok [Ob1.ie (IE.mod (IE.mod (IE.add (IE.add (IE.mul (IE.mul (IE.c 7) (IE.add (IE.v 1) (IE.c 1))) (IE.add (IE.v 1) (IE.c 1))) (IE.mul (IE.c 5) (IE.add (IE.v 1) (IE.c 1)))) (IE.c 3)) (IE.c 101)) (IE.v 2)) (IE.v 5),Ob1.ie (IE.v 0) (IE.v 3),Ob1.ie (IE.add (IE.v 1) (IE.c 1)) (IE.v 4)]))) (VC.req (CE.lt (IE.c 0) (IE.v 2)) (VC.req (CE.lt (IE.c 0) (IE.v 2)) (VC.req (CE.lt (IE.v 2) (IE.c 1606938044258990275541962092341162602522202993782792835301376)) (VC.ok [Ob1.ie (IE.mod (IE.v 0) (IE.v 2)) (IE.v 5),Ob1.ie (IE.div (IE.v 0) (IE.v 2)) (IE.v 3),Ob1.ie (IE.add (IE.v 1) (IE.c 1)) (IE.v 4)])))):=by kernel_rfl
noncomputable def CK:VC:=VC.req (CE.le (IE.c 0) (IE.v 1)) (VC.req (CE.lt (IE.v 1) (IE.c 1000000)) (VC.br (CE.lt (IE.fn 30 (IE.v 0) (IE.v 1) (IE.c 6)) (IE.c 2)) (VC.br (CE.eq (IE.fn 30 (IE.v 0) (IE.v 1) (IE.c 6)) (IE.c 1)) (VC.req (CE.le (IE.c 0) (IE.add (IE.v 1) (IE.c 1))) (VC.req (CE.lt (IE.add (IE.v 1) (IE.c 1)) (IE.c 1000000)) (VC.ok [Ob1.ie (IE.neg (IE.fn 30 (IE.fn 31 (IE.v 0) (IE.v 1) (IE.c 6)) (IE.add (IE.v 1) (IE.c 1)) (IE.c 9))) (IE.v 5),Ob1.ie (IE.fn 31 (IE.fn 31 (IE.v 0) (IE.v 1) (IE.c 6)) (IE.add (IE.v 1) (IE.c 1)) (IE.c 9)) (IE.v 3),Ob1.ie (IE.add (IE.add (IE.v 1) (IE.c 1)) (IE.c 1)) (IE.v 4)]))) (VC.ok [Ob1.ie (IE.c 0) (IE.v 5),Ob1.ie (IE.fn 31 (IE.v 0) (IE.v 1) (IE.c 6)) (IE.v 3),Ob1.ie (IE.add (IE.v 1) (IE.c 1)) (IE.v 4)])) (VC.br (CE.eq (IE.fn 30 (IE.v 0) (IE.v 1) (IE.c 6)) (IE.c 5)) (VC.req (CE.le (IE.c 0) (IE.add (IE.v 1) (IE.c 1))) (VC.req (CE.lt (IE.add (IE.v 1) (IE.c 1)) (IE.c 1000000)) (VC.req (CE.le (IE.c 0) (IE.add (IE.add (IE.v 1) (IE.c 1)) (IE.c 1))) (VC.req (CE.lt (IE.add (IE.add (IE.v 1) (IE.c 1)) (IE.c 1)) (IE.c 1000000)) (VC.ok [Ob1.ie (IE.add (IE.mul (IE.c 65536) (IE.fn 30 (IE.fn 31 (IE.v 0) (IE.v 1) (IE.c 6)) (IE.add (IE.v 1) (IE.c 1)) (IE.c 60))) (IE.fn 30 (IE.fn 31 (IE.fn 31 (IE.v 0) (IE.v 1) (IE.c 6)) (IE.add (IE.v 1) (IE.c 1)) (IE.c 60)) (IE.add (IE.add (IE.v 1) (IE.c 1)) (IE.c 1)) (IE.c 7))) (IE.v 5),Ob1.ie (IE.fn 31 (IE.fn 31 (IE.fn 31 (IE.v 0) (IE.v 1) (IE.c 6)) (IE.add (IE.v 1) (IE.c 1)) (IE.c 60)) (IE.add (IE.add (IE.v 1) (IE.c 1)) (IE.c 1)) (IE.c 7)) (IE.v 3),Ob1.ie (IE.add (IE.add (IE.add (IE.v 1) (IE.c 1)) (IE.c 1)) (IE.c 1)) (IE.v 4)]))))) (VC.req (CE.le (IE.c 0) (IE.add (IE.v 1) (IE.c 1))) (VC.req (CE.lt (IE.add (IE.v 1) (IE.c 1)) (IE.c 1000000)) (VC.ok [Ob1.ie (IE.add (IE.c 1) (IE.fn 30 (IE.fn 31 (IE.v 0) (IE.v 1) (IE.c 6)) (IE.add (IE.v 1) (IE.c 1)) (IE.c 30))) (IE.v 5),Ob1.ie (IE.fn 31 (IE.fn 31 (IE.v 0) (IE.v 1) (IE.c 6)) (IE.add (IE.v 1) (IE.c 1)) (IE.c 30)) (IE.v 3),Ob1.ie (IE.add (IE.add (IE.v 1) (IE.c 1)) (IE.c 1)) (IE.v 4)]))))))
theorem AF (P:Params):Ne P fX=CK:=by kernel_rfl
noncomputable def bu (a c m:Int):Int:=if a=0 then (7 * (c + 1) * (c + 1) + 5 * (c + 1) + 3) % 101 % m else a % m
noncomputable def cb (a c m:Int):Int:=if a=0 then a else a / m
theorem bC {a c m:Int} (hm:0 < m):0<=bu a c m/\bu a c m < m:=by
 unfold bu; split
 ·exact ⟨Int.emod_nonneg _ (by (first | lia | omega)),Int.emod_lt_of_pos _ hm⟩
 ·exact ⟨Int.emod_nonneg _ (by (first | lia | omega)),Int.emod_lt_of_pos _ hm⟩
theorem kX {ob:List AO} {i:Nat} {p:IE×IE} (e:lI ob i=some p):ob[i]? = some (.lst [.int p.1,.int p.2]):=by
 apply bc;intro ng
 obtain ⟨l,e1,e⟩:=az e
 obtain ⟨o,e0,e1⟩:=az e1
 obtain ⟨v,e2,e3⟩:=az e
 rw [e0,cB e1,cq e2,cP (ah e3).1,cP (ah e3).2] at ng
 exact ng rfl
def gZ (w:World) (g:Gr):Prop:=∃hb,Wd w hb/\∀a o,hb.get? a=some o->g a=some o
section
variable {w:World} {ρ:Rho} {O:Opq} {G:Gr} {A:Around} {gs:Array GenState} {dr:Drawn} {os:OsState} {h h':Heap} {n:Nat}
theorem Co.own1 {y:Addr} {ao:AO} (B:gZ w (G1 h y)) (hy:aC ρ ON [y] h y ao):Co w ρ ON (G1 h y) h [ao] [] [y]:=by
 refine ⟨B,fun a o e=>?_,fun a o e=>(nomatch e),rfl,fun i o a e e'=>?_,fun i j o o' a e1 e2 w1 w2 e3 e4=>?_,fun zw m=>nomatch m⟩
 ·unfold G1 at e; split at e
  ·exact ap e
  ·exact e
 ·induction i using Nat.casesOn with
  | zero=>simp at e e'; subst e e'; exact ⟨hy,fun zw=>by unfold G1; exact aa (if_pos rfl) rfl⟩
  | succ i=>simp at e
 ·have l1:=(List.getElem?_eq_some_iff.mp e1).1
  have l2:=(List.getElem?_eq_some_iff.mp e2).1
  simp at l1 l2; (first | lia | omega)
theorem Co.keep1 {y:Addr} {ob:List AO} {pc:List (CE×Bool)} {as:List Addr} (C:Co w ρ ON (G1 h y) h' ob pc as):∀b o,b≠y->h.get? b=some o->h'.get? b=some o:=fun b o n e=>C.kp b o (by unfold G1; refine aa (if_neg n) ?_; exact e)
theorem r8 {y:Addr} {Vs:List Value} {x c m:Int} {t:Tok} (B:gZ w (G1 h y)) (L:At h.get? y (.lst Vs)) (hi:IntsAre Vs [x,c]) (hm:0 < m/\m < 1000000) (hc:0<=c/\c < 1000000) (R:Room A 40) {Q:Value->Shared->Prop} {E:Value->Shared->Prop}
  (q:∀h' n' tk Vs',(∀b o,b≠y->h.get? b=some o->h'.get? b=some o)->At h'.get? y (.lst Vs')->IntsAre Vs' [cb x c m,c + 1]->Q (.int (bu x c m) tk) ⟨h',gs,dr,n',os⟩) :
  wpAny (model pr w) A (call (.ref 857) [.ref y,.int m t]) Q E ⟨h,gs,dr,n,os⟩:=by
 apply bc;intro ng
 obtain ⟨t0,t1,eV⟩:=jo hi
 have C0:Co w (gj [x,c,m]) ON (G1 h y) h [.lst [.int (.v 0),.int (.v 1)]] [] [y]:=Co.own1 B ⟨_,.cons ⟨t0,rfl⟩ (.cons ⟨t1,rfl⟩ .nil),eV▸L⟩
 have hs:Builtin.Int.intBits (7 * (c + 1))<=64:=j3 (by omega)
 refine ng (LZ (ρ':=gj [x,c,m,cb x c m,c + 1,bu x c m]) (v:=.int (.v 5)) (r0:=0) Mk (Ci w.params) R C0 (.cons ⟨y,rfl,rfl⟩ (.cons ⟨t,rfl⟩ .nil)) ⟨fun h0=>⟨IntMulOk.of_left hs,hm.1,(if_pos h0).symm,(if_pos h0).symm,rfl⟩,fun h0=>⟨hm.1,hm.1,?_,(if_neg h0).symm,(if_neg h0).symm,rfl⟩⟩ fun V h' as' n' C p dv=>?_)
 ·exact Int.lt_trans hm.2 (show (1000000:Int) < 1606938044258990275541962092341162602522202993782792835301376 by decide)
 ·apply bc;intro ng
  obtain ⟨tk,ev⟩:=dv
  obtain ⟨tt,rfl⟩:=p
  obtain ⟨Vs',z1,z2⟩:=(C.ob 0 _ y rfl rfl).1
  rw [ev] at ng
  exact ng (q h' n' tk Vs' C.keep1 z2 (dQ (es:=[.v 3,.v 4]) z1))
theorem Co.set1 {ob:List AO} {pc:List (CE×Bool)} {as:List Addr} (S:Co w ρ O G h ob pc as) {i:Nat} {o o':AO} {y:Addr} (eo:ob[i]? = some o) (ow:o.own=true) (ea:as[i]? = some y) (k:∀b x,b≠y->h.get? b=some x->h'.get? b=some x) (z:aC ρ O as h' y o'):Co w ρ O G h' (ob.set i o') pc as:=by
 have hg:=(S.ob i o y eo ea).2 ow
 have hi:i < ob.length:=(List.getElem?_eq_some_iff.mp eo).1
 refine ⟨S.bs,fun b x e=>k b x (fun q=>by rw [q,hg] at e; exact ap e) (S.kp b x e),S.og,by simp [S.sz],fun j x b e e'=>?_,fun j j' x x' b e1 e2 w1 w2 e3 e4=>?_,S.pc⟩
 ·by_cases hij:i=j
  ·subst hij
   rw [ea] at e'; cases e'
   rw [List.getElem?_set_self hi] at e
   cases e
   exact ⟨z,fun zw=>hg⟩
  ·rw [List.getElem?_set_ne hij] at e
   obtain ⟨x1,x2⟩:=S.ob j x b e e'
   refine ⟨x1.keep .refl fun w x' ex=>k b x' (fun q=>?_) ex,x2⟩
   subst q
   exact hij (S.nd i j o x b eo e ow w ea e')
 ·have f:∀(j:Nat) x,(ob.set i o')[j]? = some x->x.own=true->∃x0,ob[j]? = some x0/\x0.own=true:=fun j x e w=>by
   by_cases hij:i=j
   ·subst hij; exact ⟨o,eo,ow⟩
   ·rw [List.getElem?_set_ne hij] at e; exact ⟨x,e,w⟩
  obtain ⟨y1,y2,y3⟩:=f j x e1 w1
  obtain ⟨z1,z2,z3⟩:=f j' x' e2 w2
  exact S.nd j j' y1 z1 b y2 z2 y3 z3 e3 e4
theorem Co.bsOn {ob:List AO} {pc:List (CE×Bool)} {as:List Addr} (S:Co w ρ O G h ob pc as) {y:Addr} (hy:G y=none):gZ w (G1 h y):=by
 obtain ⟨hb,W,k⟩:=S.bs
 refine ⟨hb,W,fun a o e=>?_⟩
 unfold G1
 refine aa (if_neg (fun q=>by have:=k a o e; rw [q,hy] at this; cases this)) ?_
 exact S.kp _ _ (k a o e)
theorem nh {ob:List AO} {i:Nat} {p:IE×IE} (e:lI ob i=some p) {G:Gr} {h:Heap} {pc:List (CE×Bool)} {as:List Addr} (S:Co w ρ O G h ob pc as) {a:Addr} (ea:as[i]? = some a):ob[i]? = some (.lst [.int p.1,.int p.2])/\∃Vs,At h.get? a (.lst Vs)/\IntsAre Vs [p.1.den ρ,p.2.den ρ]/\G a=none :=
 let ⟨⟨Vs,v1,v2⟩,g⟩:=S.ob i _ a (kX e) ea
 ⟨kX e,Vs,v2,dQ (es:=[p.1,p.2]) v1,g rfl⟩
theorem eJ {Vs:List Value} {x y:IE} {as:List Addr} {m k:Int} (i:IntsAre Vs [m,k]) (e1:x.den ρ=m) (e2:y.den ρ=k):All2 (Dn ρ as) [.int x,.int y] Vs :=
 let ⟨t0,t1,e⟩:=jo i
 e▸.cons ⟨t0,congrArg (Value.int · t0) e1.symm⟩ (.cons ⟨t1,congrArg (Value.int · t1) e2.symm⟩ .nil)
theorem d8 (h30:ρ.f 30=bu) (h31:ρ.f 31=cb):ay w ρ O fX 40:=by
 intro f args ob cs v ob' e hcs A gs dr os G h pc n as Us Q Er R S da q
 apply bc;intro ng
 obtain ⟨p,ep,e⟩:=az e
 obtain ⟨i,ei,e⟩:=az e
 obtain ⟨m,em,e⟩:=az e
 obtain ⟨x,e2,e⟩:=az e
 obtain ⟨hc,e⟩:=cU e
 cases e
 rw [cq ep,bN ei,cP em] at da
 obtain ⟨b,b',hU,⟨y,ey,hy⟩,t,ht⟩:=da.two
 obtain ⟨eo,Vs,v1,v2,ga⟩:=nh e2 S ey
 rw [hU,hy,ht,aD hc] at ng
 exact ng (r8 (S.bsOn ga) v1 v2 ⟨hcs _ (.head _),hcs _ (.tail _ (.head _))⟩ ⟨hcs _ (.tail _ (.tail _ (.head _))),hcs _ (.tail _ (.tail _ (.tail _ (.head _))))⟩ R fun h' n' tk Vs' kk L' I' =>
  q _ h' as n' (S.set1 (o':=.lst [.int (.fn 31 x.1 x.2 m),.int (.add x.2 (.c 1))]) eo rfl ey kk ⟨_,eJ I' (by exact aa CQ (aa h31 rfl)) rfl,L'⟩) .refl ⟨tk,by exact aa CQ (aa h30 rfl)⟩)
end
theorem NU {ρ:Rho} {φ:List Ob1->Prop} {c:CE} {a b:VC}:VC.leafs ρ φ (.br c a b)=((c.den ρ->a.leafs ρ φ)/\(¬c.den ρ->b.leafs ρ φ)):=rfl
theorem NJ {ρ:Rho} {φ:List Ob1->Prop} {c:CE} {a:VC}:VC.leafs ρ φ (.req c a)=(c.den ρ->a.leafs ρ φ):=rfl
theorem NZ {ρ:Rho} {φ:List Ob1->Prop} {l:List Ob1}:VC.leafs ρ φ (.ok l)=φ l:=rfl
theorem ML {ρ:Rho} {φ:List Ob1->Prop}:VC.leafs ρ φ .fail=True:=rfl
noncomputable def oe (ρ:Rho) (k:Nat) (l:List Ob1):Int:=match bz k l with | some e=>e.den ρ | none=>0
noncomputable def jW (b:Nat) (ρ:Rho) (vc:VC):Rho:=⟨fun k=>if k < b then ρ.v k else vc.ev ρ k,ρ.f,ρ.l⟩
theorem yP {b:Nat} {ρ:Rho} {vc:VC} (w:vc.wf b=true) (s:vc.safe ρ):vc.den ρ (jW b ρ vc) :=
 VC.fill (b:=b) (fun i hi=>by show _=if i < b then _ else _; exact aa (if_pos hi) rfl) w s fun k hk=>by show (if k < b then _ else _)=_; exact aa (if_neg (by (first | lia | omega))) rfl
noncomputable def GH (k:Nat) (a b c:Int):Int:=match k with | 30=>bu a b c | 31=>cb a b c | _=>ff k a b c
noncomputable def kt (l:List Int):Rho:=⟨fun i=>l.getD i 0,GH,fun zw=>[]⟩
noncomputable def kE (k:Nat) (a c:Int):Int:=CK.ev (kt [a,c]) k
theorem Do:CK.wf 3=true:=by kernel_rfl
theorem oa {a c:Int} (hc:0<=c/\c < 999000):CK.safe (kt [a,c]):=by
 have h1:c < 1000000:=by lia
 have h2:0<=c + 1:=by lia
 have h3:c + 1 < 1000000:=by lia
 have h4:0<=c + 1 + 1:=by lia
 have h5:c + 1 + 1 < 1000000:=by lia
 exact ⟨hc.1,h1,fun zw=>⟨fun zw=>⟨h2,h3,trivial⟩,fun zw=>trivial⟩,fun zw=>⟨fun zw=>⟨h2,h3,h4,h5,trivial⟩,fun zw=>⟨h2,h3,trivial⟩⟩⟩
theorem zu {a c:Int} (hc:0<=c/\c < 999000) : -8<=kE 5 a c/\kE 5 a c<=3866630/\c<=kE 4 a c/\kE 4 a c<=c + 3:=by
 have lf:CK.leafs (kt [a,c]) fun l=>-8<=oe (kt [a,c]) 5 l/\oe (kt [a,c]) 5 l<=3866630/\c<=oe (kt [a,c]) 4 l/\oe (kt [a,c]) 4 l<=c + 3:=by
  have b9:=fun x y=>bC (a:=x) (c:=y) (m:=9) (by (first | decide | lia | omega))
  have b60:=fun x y=>bC (a:=x) (c:=y) (m:=60) (by (first | decide | lia | omega))
  have b30:=fun x y=>bC (a:=x) (c:=y) (m:=30) (by (first | decide | lia | omega))
  have b7:=fun x y=>bC (a:=x) (c:=y) (m:=7) (by (first | decide | lia | omega))
  intro _ _
  refine ⟨fun zw=>⟨fun zw zw zw=>?_,fun zw=>?_⟩,fun zw=>⟨fun zw zw zw zw zw=>?_,fun zw zw zw=>?_⟩⟩
  ·have:=b9 (cb a c 6) (c + 1)
   show -8<=-(bu (cb a c 6) (c + 1) 9)/\-(bu (cb a c 6) (c + 1) 9)<=3866630/\c<=c + 1 + 1/\c + 1 + 1<=c + 3
   (first | decide | lia | omega)
  ·show -8<=(0:Int)/\(0:Int)<=3866630/\c<=c + 1/\c + 1<=c + 3
   (first | decide | lia | omega)
  ·have:=b60 (cb a c 6) (c + 1); have:=b7 (cb (cb a c 6) (c + 1) 60) (c + 1 + 1)
   show -8<=65536 * bu (cb a c 6) (c + 1) 60 + bu (cb (cb a c 6) (c + 1) 60) (c + 1 + 1) 7/\65536 * bu (cb a c 6) (c + 1) 60 + bu (cb (cb a c 6) (c + 1) 60) (c + 1 + 1) 7<=3866630/\c<=c + 1 + 1 + 1/\c + 1 + 1 + 1<=c + 3
   (first | decide | lia | omega)
  ·have:=b30 (cb a c 6) (c + 1)
   show -8<=1 + bu (cb a c 6) (c + 1) 30/\1 + bu (cb a c 6) (c + 1) 30<=3866630/\c<=c + 1 + 1/\c + 1 + 1<=c + 3
   (first | decide | lia | omega)
 apply bc;intro ng
 obtain ⟨l,h1,h2⟩:=VC.leaf (oa hc) lf
 apply ng;clear ng
 unfold kE
 refine aa (h2 5) (aa (h2 4) ?_)
 exact h1
section
variable {w:World} {ρ:Rho} {O:Opq} {G:Gr} {A:Around} {gs:Array GenState} {dr:Drawn} {os:OsState} {h h':Heap} {n:Nat}
set_option tactic.hygienic true
theorem tY {ρ':Rho} {y:Addr} {as':List Addr} {x c:IE} (C:Co w ρ' ON G h' [.lst [.int x,.int c]] [] ([0].map fun j=>as'.getD j 0)) (e0:as'[0]? = some y):∃Vs',At h'.get? y (.lst Vs')/\IntsAre Vs' [x.den ρ',c.den ρ']:=by
 apply bc;intro ng
 obtain ⟨y',e1,Vs',z1,z2⟩:∃y',([0].map fun j=>as'.getD j 0)[0]? = some y'/\aO ρ' ([0].map fun j=>as'.getD j 0) h'.get? y' (.lst [.int x,.int c]):=⟨_,rfl,(C.ob 0 _ _ rfl rfl).1⟩
 simp [List.getD,e0] at e1
 subst e1
 apply ng;clear ng
 cases z1; rename_i d0 z1; cases z1; rename_i d1 z1; cases z1
 apply bc;intro ng
 obtain ⟨u0,rfl⟩:=d0
 obtain ⟨u1,rfl⟩:=d1
 apply ng;clear ng
 exact ⟨_,z2,.cons _ _ (.cons _ _ .nil)⟩
theorem uJ {y:Addr} {Vs:List Value} {x c:Int} (B:gZ w (G1 h y)) (L:At h.get? y (.lst Vs)) (hi:IntsAre Vs [x,c]) (hc:0<=c/\c < 999000) (R:Room A 80) {Q:Value->Shared->Prop} {E:Value->Shared->Prop}
  (q:∀h' n' tk Vs',(∀b o,b≠y->h.get? b=some o->h'.get? b=some o)->At h'.get? y (.lst Vs')->IntsAre Vs' [kE 3 x c,kE 4 x c]->Q (.int (kE 5 x c) tk) ⟨h',gs,dr,n',os⟩) :
  wpAny (model pr w) A (call (.ref 864) [.ref y]) Q E ⟨h,gs,dr,n,os⟩:=by
 cases hi; rename_i t0 _ hi; cases hi; rename_i t1 _ hi; cases hi
 have C0:Co w (kt [x,c]) ON (G1 h y) h [.lst [.int (.v 0),.int (.v 1)]] [] [y]:=Co.own1 B ⟨_,.cons ⟨t0,rfl⟩ (.cons ⟨t1,rfl⟩ .nil),L⟩
 refine LZ (ρ':=jW 3 (kt [x,c]) CK) (v:=.int (.v 5)) (r0:=40) (d8 rfl rfl) (AF w.params) R C0 (.cons ⟨y,rfl,rfl⟩ .nil) (yP Do (oa hc)) fun V h' as' n' C p dv=>?_
 ·obtain ⟨tk,rfl⟩:=dv
  obtain ⟨Vs',z1,z2⟩:=tY C (p.get rfl)
  exact q h' n' tk Vs' C.keep1 z1 z2
set_option tactic.hygienic false
noncomputable def MD:Hk:=fun a args ob=>((be args).bind AV.l?).bind fun i=>(lI ob i).bind fun x =>
 if a == 864 then some ([.le (.c 0) x.2,.lt x.2 (.c 999000)],.int (.fn 32 x.1 x.2 (.c 0)),ob.set i (.lst [.int (.fn 33 x.1 x.2 (.c 0)),.int (.fn 34 x.1 x.2 (.c 0))])) else none
end
section
variable {w:World} {ρ ρ':Rho} {O:Opq} {G:Gr} {A:Around} {gs:Array GenState} {dr:Drawn} {os:OsState} {h h':Heap} {n:Nat} {hk:Hk}
theorem B4 (h32:∀a c x,0<=c->c < 999000->ρ.f 32 a c x=kE 5 a c) (h33:∀a c x,0<=c->c < 999000->ρ.f 33 a c x=kE 3 a c) (h34:∀a c x,0<=c->c < 999000->ρ.f 34 a c x=kE 4 a c):ay w ρ O MD 80:=by
 intro f args ob cs v ob' e hcs A gs dr os G h pc n as Us Q Er R S da q
 apply bc;intro ng
 obtain ⟨i,ei,e⟩:=az e
 obtain ⟨u,eu,ei⟩:=az ei
 obtain ⟨x,e2,e⟩:=az e
 obtain ⟨hc,e⟩:=cU e
 cases e
 rw [ba eu,bN ei] at da
 obtain ⟨b,hU,y,ey,hy⟩:=da.one
 obtain ⟨eo,Vs,v1,v2,ga⟩:=nh e2 S ey
 have k3:0<=x.2.den ρ:=hcs _ (.head _)
 have k4:x.2.den ρ < 999000:=hcs _ (.tail _ (.head _))
 rw [hU,hy,aD hc] at ng
 exact ng (uJ (S.bsOn ga) v1 v2 ⟨k3,k4⟩ R fun h' n' tk Vs' kk L' I'=>q _ h' as n' (S.set1 (o':=.lst [.int (.fn 33 x.1 x.2 (.c 0)),.int (.fn 34 x.1 x.2 (.c 0))]) eo rfl ey kk ⟨_,eJ I' (by exact aa CQ (aa (h33 _ _ _ k3 k4) rfl)) (by exact aa CQ (aa (h34 _ _ _ k3 k4) rfl)),L'⟩) .refl ⟨tk,by exact aa CQ (aa (h32 _ _ _ k3 k4) rfl)⟩)
noncomputable def Mu:Hk:=fun a args ob=>match fX a args ob with | some r=>some r | none=>MD a args ob
noncomputable def KI (P:Params) (hk:Hk) (n:Nat) (f:Addr) (args:List AV) (ob:List AO) (pc:List (CE×Bool)):Tr:=(run P hk n).C (.glb (.ref f)) args ⟨[],[],ob,pc⟩ fun v s=>.leaf (.rt v) ⟨[],[],s.ob,[]⟩
theorem M7 {n0 r0:Nat} (H:ay w ρ O hk r0) {f:Addr} {args:List AV} {ob ob':List AO} {pc:List (CE×Bool)} {vc:VC} {m:List Nat} {v:AV} (e:(KI w.params hk n0 f args ob pc).vc m (.rt v) ⟨[],[],ob',[]⟩=vc) {h:Heap} {n:Nat} {as:List Addr} {Us:List Value} {Q:Value->Shared->Prop} {E:Value->Shared->Prop} (R:Room A (n0 + r0))
  (S:Co w ρ O G h ob pc as) (da:All2 (Dn ρ as) args Us) (y:vc.den ρ ρ')
  (q:∀V h' as' n',Co w ρ' O G h' ob' [] (m.map fun j=>as'.getD j 0)->aM as as'->Dn ρ' (m.map fun j=>as'.getD j 0) v V->Q V ⟨h',gs,dr,n',os⟩):wpAny (model pr w) A (call (.ref f) Us) Q E ⟨h,gs,dr,n,os⟩:=by
 rw [<- e] at y
 have y:=cV y
 unfold KI at y
 refine (fZ H n0).C (s:=⟨[],[],ob,pc⟩) R y S rfl da fun v V s' h' as' n' zw zw y C p d=>?_
 apply bc;intro ng
 obtain ⟨l0,l,y1,y2,y3,y4⟩:=y
 apply ng;clear ng
 exact q V h' _ n' (Co.re (s:=⟨[],[],s'.ob,[]⟩) (s':=⟨[],[],ob',[]⟩) C.pcs m y3 y4) p (bS (dw rfl) y1 y2 d)
end
noncomputable def pW:IE:=.fn 30 (.v 0) (.v 1) (.c 13)
noncomputable def Fz:IE:=.fn 31 (.v 0) (.v 1) (.c 13)
noncomputable def CF:IE:=.add (.v 1) (.c 1)
noncomputable def pF:IE:=.fn 30 (.fn 33 Fz CF (.c 0)) (.fn 34 Fz CF (.c 0)) (.c 2)
noncomputable def Mi:IE:=.fn 31 Fz CF (.c 3)
noncomputable def MI:IE:=.add CF (.c 1)
noncomputable def pG:IE:=.fn 30 (.fn 33 Mi MI (.c 0)) (.fn 34 Mi MI (.c 0)) (.c 3)
noncomputable def pH:IE:=.fn 30 Fz CF (.c 2)
noncomputable def kG:IE:=.fn 30 Fz CF (.c 2)
noncomputable def L7:List (CE×Bool):=[(.lt pW (.c 2),false),(.eq pW (.c 12),false)]
noncomputable def Jk:List (CE×Bool):=L7++[(.lt pW (.c 6),false)]
noncomputable def rd (l:List (CE×Bool)):List (CE×Bool):=Jk++l
noncomputable def qR (j:Nat):List (CE×Bool):=[[(.lt pW (.c 2),true)],
 [(.lt pW (.c 2),false),(.eq pW (.c 12),true)],
 List.append L7 [(.lt pW (.c 6),true)],
 rd [(.eq pW (.c 6),true)],
 rd [(.eq pW (.c 6),false),(.eq pW (.c 7),true)],
 rd [(.eq pW (.c 6),false),(.eq pW (.c 7),true)],
 rd [(.eq pW (.c 6),false),(.eq pW (.c 7),false),(.eq pW (.c 8),true)],
 rd [(.eq pW (.c 6),false),(.eq pW (.c 7),false),(.eq pW (.c 8),true)],
 rd [(.eq pW (.c 6),false),(.eq pW (.c 7),false),(.eq pW (.c 8),false),(.eq pW (.c 9),true),(.eq pF (.c 1),false),(.eq pF (.c 0),true)],
 rd [(.eq pW (.c 6),false),(.eq pW (.c 7),false),(.eq pW (.c 8),false),(.eq pW (.c 9),true),(.eq pF (.c 1),true)],
 rd [(.eq pW (.c 6),false),(.eq pW (.c 7),false),(.eq pW (.c 8),false),(.eq pW (.c 9),false),(.eq pW (.c 10),true),(.eq pG (.c 2),false),(.eq pG (.c 1),false),(.eq pG (.c 0),true)],
 rd [(.eq pW (.c 6),false),(.eq pW (.c 7),false),(.eq pW (.c 8),false),(.eq pW (.c 9),false),(.eq pW (.c 10),true),(.eq pG (.c 2),false),(.eq pG (.c 1),true)],
 rd [(.eq pW (.c 6),false),(.eq pW (.c 7),false),(.eq pW (.c 8),false),(.eq pW (.c 9),false),(.eq pW (.c 10),true),(.eq pG (.c 2),true)],
 rd [(.eq pW (.c 6),false),(.eq pW (.c 7),false),(.eq pW (.c 8),false),(.eq pW (.c 9),false),(.eq pW (.c 10),false),(.eq pH (.c 0),true)],
 rd [(.eq pW (.c 6),false),(.eq pW (.c 7),false),(.eq pW (.c 8),false),(.eq pW (.c 9),false),(.eq pW (.c 10),false),(.eq pH (.c 0),false)]].getD j []
noncomputable def AD:Nat->Nk
 | 0=>.chr | 1=>.chr | 2=>.skp | 3=>.krn | 4=>.box2 | 5=>.box3 | 6=>.box2 | 7=>.box3 | 8=>.rul | 9=>.rul4 | 10=>.dsc0 | 11=>.dsc1 | 12=>.dsc2 | 13=>.pen | _=>.mth
noncomputable def u5 (k:Nk):List AO:=bl++[.lst [.int (.v 8),.int (.v 9)]]++k.T 4 10
noncomputable def Nf (P:Params) (j:Nat):Tr:=KI P Mu 40 871 [.loc 3,.loc 1,.int (.v 2)] (bl++[.lst [.int (.v 0),.int (.v 1)]]) (qR j)
noncomputable def DR:Nat->List Nat
 | 0=>[0,1,2,3,4,5]
 | 1=>[0,1,2,3,4,5]
 | 2=>[0,1,2,3,4,5,6,7]
 | 3=>[0,1,2,3,4,5]
 | 4=>[0,1,2,3,7,4,5,6]
 | 5=>[0,1,2,3,7,4,5,6]
 | 6=>[0,1,2,3,7,4,5,6]
 | 7=>[0,1,2,3,7,4,5,6]
 | 8=>[0,1,2,3,5,6]
 | 9=>[0,1,2,3,5,6]
 | 10=>[0,1,2,3,4,5,8,9,10,11,6,7,13,14,15]
 | 11=>[0,1,2,3,4,5,8,9,10,11,6,7,13,14,15]
 | 12=>[0,1,2,3,4,5,8,9,10,11,6,7,13,14,15]
 | 13=>[0,1,2,3,4,5]
 | _=>[0,1,2,3,4,5]
noncomputable def mw (P:Params) (j:Nat):VC:=(Nf P j).vc (DR j) (.rt (.loc (4 + (AD j).last))) ⟨[],[],u5 (AD j),[]⟩
noncomputable def nJ:CE:=.le (.c 0) (.v 1)
noncomputable def mL:CE:=.lt (.v 1) (.c 1000000)
noncomputable def mu:IE:=.add (.v 1) (.c 1)
noncomputable def mA:CE:=.le (.c 0) mu
noncomputable def rW:CE:=.lt mu (.c 1000000)
noncomputable def vJ:IE:=.fn 31 (.v 0) (.v 1) (.c 13)
noncomputable def mT:IE:=.add (.c 97) (.fn 30 vJ mu (.c 3))
noncomputable def ja:Ob1:=.ie (.c 1) (.c 1)
noncomputable def nP:IE:=.fn 31 vJ mu (.c 3)
noncomputable def de:IE:=.add mu (.c 1)
noncomputable def fM:IE:=.fn 34 vJ mu (.c 0)
noncomputable def mI:IE:=.fn 33 vJ mu (.c 0)
noncomputable def jf:IE:=.fn 34 mI fM (.c 0)
noncomputable def yH:IE:=.fn 31 (.fn 33 mI fM (.c 0)) jf (.v 2)
noncomputable def tC:IE:=.fn 34 yH (.add jf (.c 1)) (.c 0)
noncomputable def yu:IE:=.fn 30 (.fn 33 mI fM (.c 0)) jf (.v 2)
noncomputable def yE:IE:=.fn 30 (.fn 33 yH (.add jf (.c 1)) (.c 0)) tC (.v 2)
noncomputable def eY:IE:=.c (-1073741823)
noncomputable def yd:CE:=.le eY (.fn 32 vJ mu (.c 0))
noncomputable def xE:CE:=.le (.fn 32 vJ mu (.c 0)) (.c 1073741823)
noncomputable def my:IE:=.fn 32 mI fM (.c 0)
noncomputable def jd:IE:=.fn 32 yH (.add jf (.c 1)) (.c 0)
noncomputable def xX:Ob1:=.ie (.fn 31 (.fn 33 yH (.add jf (.c 1)) (.c 0)) tC (.v 2)) (.v 8)
noncomputable def xK:Ob1:=.ie (.add tC (.c 1)) (.v 9)
noncomputable def nc:Ob1:=.ie (.fn 32 vJ mu (.c 0)) (.v 10)
noncomputable def dJ:Ob1:=.ie (.c 0) (.c 0)
noncomputable def kf:IE:=.fn 31 vJ mu (.c 2)
noncomputable def cx:IE:=.fn 34 kf de (.c 0)
noncomputable def eF:IE:=.fn 33 kf de (.c 0)
noncomputable def iF:IE:=.fn 34 eF cx (.c 0)
noncomputable def gW:IE:=.add (.c 2) (.fn 30 vJ mu (.c 2))
noncomputable def rB:CE:=.le eY (.fn 32 kf de (.c 0))
noncomputable def ua:CE:=.le (.fn 32 kf de (.c 0)) (.c 1073741823)
noncomputable def gX:IE:=.fn 32 (.fn 33 eF cx (.c 0)) iF (.c 0)
noncomputable def dG:IE:=.fn 34 (.fn 33 eF cx (.c 0)) iF (.c 0)
noncomputable def gY:IE:=.fn 33 (.fn 33 eF cx (.c 0)) iF (.c 0)
noncomputable def ry:Ob1:=.ie (.fn 32 kf de (.c 0)) (.v 10)
noncomputable def hJ:IE:=.fn 34 nP de (.c 0)
noncomputable def qc:VC:=.req nJ (.req mL (.req mA (.req rW (.br (.le (.c 0) mT) (.br (.le mT (.c 255)) (.ok [ja,.ie nP (.v 8),.ie de (.v 9),.ie mT (.v 10)]) .fail) .fail))))
theorem xH (P:Params):mw P 0=qc:=by kernel_rfl
noncomputable def qF:VC:=.req nJ (.req mL (.req mA (.req rW (.br (.le (.c 0) mT) (.br (.le mT (.c 255)) (.ok [ja,.ie nP (.v 8),.ie de (.v 9),.ie mT (.v 10)]) .fail) .fail))))
theorem vS (P:Params):mw P 1=qF:=by kernel_rfl
noncomputable def mS:VC:=.req nJ (.req mL (.req mA (.req (.lt mu (.c 999000)) (.req (.le (.c 0) fM) (.req (.lt fM (.c 999000)) (.req (.lt (.c 0) (.v 2)) (.req (.lt (.v 2) (.c 1000000)) (.req (.le (.c 0) jf) (.req (.lt jf (.c 1000000)) (.req (.le (.c 0) (.add jf (.c 1))) (.req (.lt (.add jf (.c 1)) (.c 999000)) (.req (.lt (.c 0) (.v 2)) (.req (.lt (.v 2) (.c 1000000)) (.req (.le (.c 0) tC) (.req (.lt tC (.c 1000000)) (.br (.le (.c 0) yu) (.br (.le yu (.c 3)) (.br (.le (.c 0) yE) (.br (.le yE (.c 3)) (.br yd (.br xE (.br (.le eY my) (.br (.le my (.c 1073741823)) (.br (.eq my (.c 0)) (.br (.le eY jd) (.br (.le jd (.c 1073741823)) (.br (.eq jd (.c 0)) (.ok [ja,xX,xK,.ie (.c 0) (.v 14),.ie jd (.v 13),.ie (.c 0) (.v 12),.ie my (.v 11),nc,dJ]) (.ok [ja,xX,xK,.ie yE (.v 14),.ie jd (.v 13),.ie (.c 0) (.v 12),.ie my (.v 11),nc,dJ])) .fail) .fail) (.br (.le eY jd) (.br (.le jd (.c 1073741823)) (.br (.eq jd (.c 0)) (.ok [ja,xX,xK,.ie (.c 0) (.v 14),.ie jd (.v 13),.ie yu (.v 12),.ie my (.v 11),nc,dJ]) (.ok [ja,xX,xK,.ie yE (.v 14),.ie jd (.v 13),.ie yu (.v 12),.ie my (.v 11),nc,dJ])) .fail) .fail)) .fail) .fail) .fail) .fail) .fail) .fail) .fail) .fail))))))))))))))))
theorem uY (P:Params):mw P 2=mS:=by kernel_rfl
noncomputable def tX:VC:=.req nJ (.req mL (.req mA (.req (.lt mu (.c 999000)) (.br yd (.br xE (.ok [ja,.ie mI (.v 8),.ie fM (.v 9),.ie (.c 1) (.v 11),nc]) .fail) .fail))))
theorem wN (P:Params):mw P 3=tX:=by kernel_rfl
noncomputable def yx:VC:=.req nJ (.req mL (.req mA (.req rW (.req (.le (.c 0) de) (.req (.lt de (.c 999000)) (.req (.le (.c 0) cx) (.req (.lt cx (.c 999000)) (.req (.le (.c 0) iF) (.req (.lt iF (.c 999000)) (.br (.le (.c 2) gW) (.br (.le gW (.c 3)) (.br rB (.br ua (.br (.le eY (.fn 32 eF cx (.c 0))) (.br (.le (.fn 32 eF cx (.c 0)) (.c 1073741823)) (.br (.le eY gX) (.br (.le gX (.c 1073741823)) (.req (.le (.c 0) dG) (.req (.lt dG (.c 999000)) (.ok [ja,.ie (.fn 33 gY dG (.c 0)) (.v 8),.ie (.fn 34 gY dG (.c 0)) (.v 9),dJ,ja,dJ,dJ,.ie (.fn 32 gY dG (.c 0)) (.v 13),.ie gX (.v 12),.ie (.fn 32 eF cx (.c 0)) (.v 11),ry,.ie gW (.c 2)]))) .fail) .fail) .fail) .fail) .fail) .fail) .fail) .fail))))))))))
theorem vQ (P:Params):mw P 4=yx:=by kernel_rfl
noncomputable def yJ:VC:=.req nJ (.req mL (.req mA (.req rW (.req (.le (.c 0) de) (.req (.lt de (.c 999000)) (.req (.le (.c 0) cx) (.req (.lt cx (.c 999000)) (.req (.le (.c 0) iF) (.req (.lt iF (.c 999000)) (.br (.le (.c 2) gW) (.br (.le gW (.c 3)) (.br rB (.br ua (.br (.le eY (.fn 32 eF cx (.c 0))) (.br (.le (.fn 32 eF cx (.c 0)) (.c 1073741823)) (.br (.le eY gX) (.br (.le gX (.c 1073741823)) (.req (.le (.c 0) dG) (.req (.lt dG (.c 999000)) (.ok [ja,.ie (.fn 33 gY dG (.c 0)) (.v 8),.ie (.fn 34 gY dG (.c 0)) (.v 9),dJ,ja,dJ,dJ,.ie (.fn 32 gY dG (.c 0)) (.v 13),.ie gX (.v 12),.ie (.fn 32 eF cx (.c 0)) (.v 11),ry,.ie gW (.c 3)]))) .fail) .fail) .fail) .fail) .fail) .fail) .fail) .fail))))))))))
theorem xP (P:Params):mw P 5=yJ:=by kernel_rfl
noncomputable def w6:VC:=.req nJ (.req mL (.req mA (.req rW (.req (.le (.c 0) de) (.req (.lt de (.c 999000)) (.req (.le (.c 0) cx) (.req (.lt cx (.c 999000)) (.req (.le (.c 0) iF) (.req (.lt iF (.c 999000)) (.br (.le (.c 2) gW) (.br (.le gW (.c 3)) (.br rB (.br ua (.br (.le eY (.fn 32 eF cx (.c 0))) (.br (.le (.fn 32 eF cx (.c 0)) (.c 1073741823)) (.br (.le eY gX) (.br (.le gX (.c 1073741823)) (.req (.le (.c 0) dG) (.req (.lt dG (.c 999000)) (.ok [ja,.ie (.fn 33 gY dG (.c 0)) (.v 8),.ie (.fn 34 gY dG (.c 0)) (.v 9),dJ,ja,dJ,dJ,.ie (.fn 32 gY dG (.c 0)) (.v 13),.ie gX (.v 12),.ie (.fn 32 eF cx (.c 0)) (.v 11),ry,.ie gW (.c 2)]))) .fail) .fail) .fail) .fail) .fail) .fail) .fail) .fail))))))))))
theorem xb (P:Params):mw P 6=w6:=by kernel_rfl
noncomputable def yj:VC:=.req nJ (.req mL (.req mA (.req rW (.req (.le (.c 0) de) (.req (.lt de (.c 999000)) (.req (.le (.c 0) cx) (.req (.lt cx (.c 999000)) (.req (.le (.c 0) iF) (.req (.lt iF (.c 999000)) (.br (.le (.c 2) gW) (.br (.le gW (.c 3)) (.br rB (.br ua (.br (.le eY (.fn 32 eF cx (.c 0))) (.br (.le (.fn 32 eF cx (.c 0)) (.c 1073741823)) (.br (.le eY gX) (.br (.le gX (.c 1073741823)) (.req (.le (.c 0) dG) (.req (.lt dG (.c 999000)) (.ok [ja,.ie (.fn 33 gY dG (.c 0)) (.v 8),.ie (.fn 34 gY dG (.c 0)) (.v 9),dJ,ja,dJ,dJ,.ie (.fn 32 gY dG (.c 0)) (.v 13),.ie gX (.v 12),.ie (.fn 32 eF cx (.c 0)) (.v 11),ry,.ie gW (.c 3)]))) .fail) .fail) .fail) .fail) .fail) .fail) .fail) .fail))))))))))
theorem yy (P:Params):mw P 7=yj:=by kernel_rfl
noncomputable def tG:VC:=.req nJ (.req mL (.req mA (.req (.lt mu (.c 999000)) (.req (.le (.c 0) fM) (.req (.lt fM (.c 1000000)) (.br yd (.br xE (.ok [ja,.ie (.fn 31 mI fM (.c 2)) (.v 8),.ie (.add fM (.c 1)) (.v 9),nc]) .fail) .fail))))))
theorem wj (P:Params):mw P 8=tG:=by kernel_rfl
noncomputable def sW:VC:=.req nJ (.req mL (.req mA (.req (.lt mu (.c 999000)) (.req (.le (.c 0) fM) (.req (.lt fM (.c 1000000)) (.br yd (.br xE (.ok [ja,.ie (.fn 31 mI fM (.c 2)) (.v 8),.ie (.add fM (.c 1)) (.v 9),.ie (.c 4) (.c 4),nc]) .fail) .fail))))))
theorem vH (P:Params):mw P 9=sW:=by kernel_rfl
noncomputable def kR:VC:=.req nJ (.req mL (.req mA (.req rW (.br (.le (.c 0) mT) (.br (.le mT (.c 255)) (.req (.le (.c 0) de) (.req (.lt de (.c 999000)) (.br (.le eY (.fn 32 nP de (.c 0))) (.br (.le (.fn 32 nP de (.c 0)) (.c 1073741823)) (.req (.le (.c 0) hJ) (.req (.lt hJ (.c 1000000)) (.ok [ja,.ie (.fn 31 (.fn 33 nP de (.c 0)) hJ (.c 3)) (.v 8),.ie (.add hJ (.c 1)) (.v 9),.ie (.c 97) (.c 97),.ie mT (.v 10),dJ,.ie (.fn 32 nP de (.c 0)) (.v 11)]))) .fail) .fail))) .fail) .fail))))
theorem tZ (P:Params):mw P 10=kR:=by kernel_rfl
noncomputable def jm:VC:=.req nJ (.req mL (.req mA (.req rW (.br (.le (.c 0) mT) (.br (.le mT (.c 255)) (.req (.le (.c 0) de) (.req (.lt de (.c 999000)) (.br (.le eY (.fn 32 nP de (.c 0))) (.br (.le (.fn 32 nP de (.c 0)) (.c 1073741823)) (.req (.le (.c 0) hJ) (.req (.lt hJ (.c 1000000)) (.ok [ja,.ie (.fn 31 (.fn 33 nP de (.c 0)) hJ (.c 3)) (.v 8),.ie (.add hJ (.c 1)) (.v 9),.ie (.c 97) (.c 97),.ie mT (.v 10),dJ,.ie (.fn 32 nP de (.c 0)) (.v 11)]))) .fail) .fail))) .fail) .fail))))
theorem to (P:Params):mw P 11=jm:=by kernel_rfl
noncomputable def jw:VC:=.req nJ (.req mL (.req mA (.req rW (.br (.le (.c 0) mT) (.br (.le mT (.c 255)) (.req (.le (.c 0) de) (.req (.lt de (.c 999000)) (.br (.le eY (.fn 32 nP de (.c 0))) (.br (.le (.fn 32 nP de (.c 0)) (.c 1073741823)) (.req (.le (.c 0) hJ) (.req (.lt hJ (.c 1000000)) (.ok [ja,.ie (.fn 31 (.fn 33 nP de (.c 0)) hJ (.c 3)) (.v 8),.ie (.add hJ (.c 1)) (.v 9),.ie (.c 97) (.c 97),.ie mT (.v 10),dJ,.ie (.fn 32 nP de (.c 0)) (.v 11)]))) .fail) .fail))) .fail) .fail))))
theorem rl (P:Params):mw P 12=jw:=by kernel_rfl
noncomputable def mm:VC:=.req nJ (.req mL (.req mA (.req rW (.req (.le (.c 0) de) (.req (.lt de (.c 1000000)) (.br (.le (.c (-2147483647)) (.fn 30 kf de (.c 99))) (.br (.le (.fn 30 kf de (.c 99)) (.c 2147483647)) (.ok [ja,.ie (.fn 31 kf de (.c 99)) (.v 8),.ie (.add de (.c 1)) (.v 9),.ie (.fn 30 kf de (.c 99)) (.v 10)]) .fail) .fail))))))
theorem sy (P:Params):mw P 13=mm:=by kernel_rfl
noncomputable def ml:VC:=.req nJ (.req mL (.req mA (.req rW (.req (.le (.c 0) de) (.req (.lt de (.c 999000)) (.br rB (.br ua (.ok [ja,.ie eF (.v 8),.ie cx (.v 9),ry]) .fail) .fail))))))
theorem t4 (P:Params):mw P 14=ml:=by kernel_rfl
noncomputable def BR (m:IE):Option (Int×Int):=match m.c? with
 | some m=>(match decide (0 < m) with | true=>some (0,m - 1) | false=>none)
 | none=>m.v?.bind fun i=>match Nat.beq i 2 with | true=>some (0,3) | false=>none
noncomputable def B2 (k:Nat) (x:Option (Int×Int)) (m:IE):Option (Int×Int):=match Nat.beq k 30 with
 | true=>BR m
 | false=>(match Nat.beq k 32 with | true=>some (-8,3866630) | false=>(match Nat.beq k 34 with | true=>x.map fun p=>(p.1,p.2 + 3) | false=>none))
noncomputable def qr:IE->Option (Int×Int)
 | .c n=>some (n,n)
 | .v i=>(match Nat.beq i 1 with | true=>some (0,980000) | false=>(match Nat.beq i 2 with | true=>some (1,4) | false=>none))
 | .fn k _ x m=>B2 k (qr x) m
 | .add a b=>(qr a).bind fun p=>(qr b).map fun q=>(p.1 + q.1,p.2 + q.2)
 | .neg a=>(qr a).map fun p=>(-p.2,-p.1)
 | _=>none
noncomputable def grow:IE->Option Nat
 | .v i=>(match Nat.beq i 1 with | true=>some 0 | false=>none)
 | .add x y=>y.c?.bind fun n=>(match decide (n=1) with | true=>(grow x).map (· + 1) | false=>none)
 | .fn k _ x _=>(match Nat.beq k 34 with | true=>(grow x).map (· + 3) | false=>none)
 | _=>none
structure Dr (ρ:Rho):Prop where
 c:0<=ρ.v 1/\ρ.v 1<=980000
 o:1<=ρ.v 2/\ρ.v 2<=4
 t:∀a c m,0 < m->0<=ρ.f 30 a c m/\ρ.f 30 a c m < m
 z:∀a c x,-8<=ρ.f 32 a c x/\ρ.f 32 a c x<=3866630
 g:∀a c x,c<=ρ.f 34 a c x/\ρ.f 34 a c x<=c + 3
theorem qJ {α:Type} {b:Bool} {x:α} {y:Option α} {z:α} (e:(match b with | true=>some x | false=>y)=some z):(b=true/\x=z)\/y=some z:=by
 induction b with | true=>exact .inl ⟨rfl,aF e⟩ | false=>exact .inr e
theorem lD {a b:Nat} (e:Nat.beq a b=true):a=b:=Nat.eq_of_beq_eq_true e
theorem wb {ρ:Rho} (D:Dr ρ) {m:IE} {p:Int×Int} (h:BR m=some p) (a c:Int):p.1<=ρ.f 30 a c (m.den ρ)/\ρ.f 30 a c (m.den ρ)<=p.2:=by
 unfold BR at h
 induction q:m.c? with
 | some n =>
  rw [q] at h
  refine aa (bP q) ?_
  rcases qJ (b:=decide (0 < n)) (y:=none) h with ⟨h1,h2⟩ | h
  ·have:=D.t a c n (of_decide_eq_true h1)
   refine aa (Eq.symm h2) ?_
   exact ⟨this.1,Int.le_sub_one_of_lt this.2⟩
  ·exact ap h
 | none =>
  rw [q] at h
  obtain ⟨i,e1,h⟩:=az h
  rcases qJ (b:=Nat.beq i 2) (y:=none) h with ⟨h1,h2⟩ | h
  ·refine aa (dT e1) (aa (lD h1) (aa (Eq.symm h2) ?_))
   have o:=D.o
   have:=D.t a c (ρ.v 2) (by (first | lia | omega))
   exact ⟨this.1,Int.le_of_lt_add_one (Int.lt_of_lt_of_le this.2 o.2)⟩
  ·exact ap h
theorem c9 {ρ:Rho} (D:Dr ρ) {e:IE}:∀{p:Int×Int},qr e=some p->p.1<=e.den ρ/\e.den ρ<=p.2:=by
 induction e with
 | c n=>exact fun h=>aF h▸⟨Int.le_refl _,Int.le_refl _⟩
 | v i =>
  intro p h
  have h:(match Nat.beq i 1 with | true=>some ((0,980000):Int×Int) | false=>(match Nat.beq i 2 with | true=>some (1,4) | false=>none))=some p:=h
  rcases qJ h with ⟨h1,h2⟩ | h
  ·refine aa (lD h1) (aa (Eq.symm h2) ?_); exact D.c
  ·rcases qJ (b:=Nat.beq i 2) (y:=none) h with ⟨h1,h2⟩ | h
   ·refine aa (lD h1) (aa (Eq.symm h2) ?_); exact D.o
   ·exact ap h
 | fn k a b c ia ib ic =>
  intro p h
  have h:B2 k (qr b) c=some p:=h
  unfold B2 at h
  induction q:Nat.beq k 30 with
  | true=>rw [q] at h; refine aa (lD q) ?_; exact wb D h _ _
  | false =>
   rw [q] at h
   rcases qJ (b:=Nat.beq k 32) (y:=match Nat.beq k 34 with | true=>(qr b).map fun p=>(p.1,p.2 + 3) | false=>none) h with ⟨h1,h2⟩ | h
   ·refine aa (lD h1) (aa (Eq.symm h2) ?_); exact D.z _ _ _
   ·induction q3:Nat.beq k 34 with
    | true =>
     rw [q3] at h
     obtain ⟨z,hz,h⟩:=gU h
     refine aa (lD q3) (aa (Eq.symm h) ?_)
     have:=ib hz
     have g:=D.g (a.den ρ) (b.den ρ) (c.den ρ)
     exact ⟨Int.le_trans this.1 g.1,Int.le_trans g.2 (Int.add_le_add_right this.2 3)⟩
    | false=>rw [q3] at h; exact ap h
 | add a b ia ib =>
  intro p h
  obtain ⟨q,hq,h⟩:=az h
  obtain ⟨q',hq',h⟩:=gU h
  refine aa (Eq.symm h) ?_
  exact ⟨Int.add_le_add (ia hq).1 (ib hq').1,Int.add_le_add (ia hq).2 (ib hq').2⟩
 | neg a ia =>
  intro p h
  obtain ⟨q,hq,h⟩:=gU h
  refine aa (Eq.symm h) ?_
  exact ⟨Int.neg_le_neg (ia hq).2,Int.neg_le_neg (ia hq).1⟩
 | _=>intro p h; exact ap h
theorem w7 {ρ:Rho} (D:Dr ρ) {e:IE}:∀{n:Nat},grow e=some n->ρ.v 1<=e.den ρ/\e.den ρ<=ρ.v 1 + n:=by
 induction e with
 | v i =>
  intro n h
  rcases qJ (b:=Nat.beq i 1) (y:=none) h with ⟨h1,h2⟩ | h
  ·refine aa (lD h1) (aa (Eq.symm h2) ?_); exact ⟨Int.le_refl _,by show ρ.v 1<=ρ.v 1 + (0:Nat); (first | lia | omega)⟩
  ·exact ap h
 | add a b ia ib =>
  intro n h
  obtain ⟨m,em,h⟩:=az h
  have h:(match decide (m=1) with | true=>(grow a).map (· + 1) | false=>none)=some n:=h
  induction q:decide (m=1) with
  | true =>
   rw [q] at h
   obtain ⟨k,hk,h⟩:=gU h
   have:=ia hk
   refine aa (bP em) (aa (of_decide_eq_true q) (aa (Eq.symm h) ?_))
   show _<=a.den ρ + 1/\a.den ρ + 1<=_
   (first | lia | omega)
  | false=>rw [q] at h; exact ap h
 | fn k a b c ia ib ic =>
  intro n h
  have h:(match Nat.beq k 34 with | true=>(grow b).map (· + 3) | false=>none)=some n:=h
  induction q:Nat.beq k 34 with
  | true =>
   rw [q] at h
   obtain ⟨z,hz,h⟩:=gU h
   have:=ib hz
   have g:=D.g (a.den ρ) (b.den ρ) (c.den ρ)
   refine aa (lD q) (aa (Eq.symm h) ?_)
   show _<=ρ.f 34 _ _ _/\ρ.f 34 _ _ _<=_
   (first | lia | omega)
  | false=>rw [q] at h; exact ap h
 | _=>intro n h; exact ap h
noncomputable def cT:CE->Bool
 | .le a b=>(aq (qr a) (qr b)).any fun p=>decide (p.1.2<=p.2.1)
 | .lt a b=>(aq (qr a) (qr b)).any fun p=>decide (p.1.2 < p.2.1)
 | _=>false
theorem tE {ρ:Rho} (D:Dr ρ) {c:CE} (h:cT c=true):c.den ρ:=by
 induction c using CE.casesOn <;> try exact bH h
 ·obtain ⟨p,e,h⟩:=cw h
  exact Int.lt_of_le_of_lt (c9 D (ah e).1).2 (Int.lt_of_lt_of_le (of_decide_eq_true h) (c9 D (ah e).2).1)
 ·obtain ⟨p,e,h⟩:=cw h
  exact Int.le_trans (c9 D (ah e).1).2 (Int.le_trans (of_decide_eq_true h) (c9 D (ah e).2).1)
noncomputable def zI (l:List Ob1):Bool :=
 ((bz 9 l).any fun e=>(grow e).any fun n=>Nat.ble n 20) &&
 [10,11,12,13,14].all fun k=>match bz k l with | some e=>(qr e).any fun p=>decide (-8<=p.1) && decide (p.2<=3866630) | none=>true
noncomputable def VC.sB:VC->Bool
 | .ok l=>zI l
 | .br c a b=>(match cT c with | true=>a.sB | false=>a.sB && b.sB)
 | .req c t=>cT c && t.sB
 | .fail=>false
structure InB (ρ:Rho) (f:Nat->Int):Prop where
 c:ρ.v 1<=f 9/\f 9<=ρ.v 1 + 20
 n:∀k,k=10\/k=11\/k=12\/k=13\/k=14->-8<=f k/\f k<=3866630
theorem rX {ρ:Rho} (D:Dr ρ) {l:List Ob1} (h:zI l=true):InB ρ fun k=>match bz k l with | some e=>e.den ρ | none=>0:=by
 refine ⟨?_,fun k hk=>?_⟩
 ·obtain ⟨e,he,h⟩:=cw (ag h)
  apply bc;intro ng
  obtain ⟨n,hn,h⟩:=cw h
  apply ng;clear ng
  have:=w7 D hn
  have hb:=Nat.le_of_ble_eq_true h
  refine aa he ?_
  show _<=e.den ρ/\e.den ρ<=_
  (first | lia | omega)
 ·have h2:=List.all_eq_true.mp (au h) k (by simp; exact hk)
  induction q:bz k l with
  | some e =>
   rw [q] at h2
   apply bc;intro ng
   obtain ⟨p,hp,h⟩:=cw h2
   apply ng;clear ng
   have:=c9 D hp
   exact ⟨Int.le_trans (of_decide_eq_true (ag h)) this.1,Int.le_trans this.2 (of_decide_eq_true (au h))⟩
  | none=>exact ⟨(by decide:(-8:Int)<=0),(by decide:(0:Int)<=3866630)⟩
theorem tS {ρ:Rho} (D:Dr ρ) {vc:VC} (h:vc.sB=true):vc.safe ρ/\InB ρ fun k=>vc.ev ρ k:=by
 induction vc with
 | ok l=>exact ⟨trivial,rX D h⟩
 | br c a b ia ib =>
  have h:(match cT c with | true=>a.sB | false=>a.sB && b.sB)=true:=h
  have et:c.den ρ->(fun k=>VC.ev ρ k (.br c a b))=fun k=>a.ev ρ k:=fun hc=>funext fun k=>mB hc
  have ef:¬c.den ρ->(fun k=>VC.ev ρ k (.br c a b))=fun k=>b.ev ρ k:=fun hc=>funext fun k=>sM hc
  induction q:cT c with
  | true =>
   rw [q] at h
   have hc:=tE D q
   refine aa (et hc) ?_
   exact ⟨⟨fun zw=>(ia h).1,fun n=>absurd hc n⟩,(ia h).2⟩
  | false =>
   rw [q] at h
   refine ⟨⟨fun zw=>(ia (ag h)).1,fun zw=>(ib (au h)).1⟩,?_⟩
   rcases Classical.em (c.den ρ) with hc | hc
   ·refine aa (et hc) ?_; exact (ia (ag h)).2
   ·refine aa (ef hc) ?_; exact (ib (au h)).2
 | req c t ih=>exact ⟨⟨tE D (ag h),(ih (au h)).1⟩,(ih (au h)).2⟩
 | fail=>exact bH h
theorem dX : [qc,qF,mS,tX,tG,sW,kR,jm,jw,mm,ml].all VC.sB=true:=by kernel_rfl
theorem Gc : [qc,qF,mS,tX,tG,sW,kR,jm,jw,mm,ml].all (VC.wf 3)=true:=by kernel_rfl
theorem kn:yx.sB=true/\yJ.sB=true/\w6.sB=true/\yj.sB=true:=⟨by kernel_rfl,by kernel_rfl,by kernel_rfl,by kernel_rfl⟩
noncomputable def A2 (e0:IE) (n0:Int) (b:Nat) (r:List Ob1) (a e:IE):Bool:=match e.v? with
 | some k=>Nat.ble b k && Gu k r
 | none=>e.c?.any fun n=>(match a.c? with | some m=>decide (m=n) | none=>a.same e0 && decide (n=n0))
noncomputable def VC.wfE (e0:IE) (n0:Int) (b:Nat) (t:VC):Bool:=t.allL (jb (A2 e0 n0 b))
theorem wX {b:Nat} {ρ ρ':Rho} {e0:IE} {n0:Int} (h0:e0.den ρ=n0) (r:List Ob1) (a e:IE) (w:A2 e0 n0 b r a e=true):Cj b ρ ρ' r a e:=by
 unfold A2 at w
 induction q:e.v? with
 | some k =>
  rw [q] at w
  exact ⟨fun k' ek zw=>aF (q.symm.trans ek)▸td (au w),fun z=>by refine aa (dT q) ?_; exact (z k q (Nat.le_of_ble_eq_true (ag w))).symm⟩
 | none =>
  rw [q] at w
  apply bc;intro ng
  obtain ⟨n,e1,w⟩:=cw w
  apply ng;clear ng
  refine ⟨fun k' ek zw=>ap (q.symm.trans ek),fun zw=>?_⟩
  refine aa (bP e1) ?_
  induction q2:a.c? with
  | some m=>rw [q2] at w; refine aa (bP q2) ?_; exact of_decide_eq_true w
  | none=>rw [q2] at w; refine aa (IE.same_ok (ag w)) ?_; exact h0.trans (of_decide_eq_true (au w)).symm
theorem VC.fillE {b:Nat} {ρ ρ':Rho} {e0:IE} {n0:Int} (h0:e0.den ρ=n0) {vc:VC} (w:vc.wfE e0 n0 b=true) (s:vc.safe ρ) (q:∀k,b<=k->ρ'.v k=vc.ev ρ k):vc.den ρ ρ':=VC.fillG (fun zw=>nZ (wX h0)) w s q
theorem km:yx.wfE (.add (.c 2) kG) 2 3=true/\yJ.wfE (.add (.c 2) kG) 3 3=true/\w6.wfE (.add (.c 2) kG) 2 3=true/\yj.wfE (.add (.c 2) kG) 3 3=true:=⟨by kernel_rfl,by kernel_rfl,by kernel_rfl,by kernel_rfl⟩
noncomputable def hK:Nat->VC
 | 0=>qc | 1=>qF | 2=>mS | 3=>tX | 4=>yx | 5=>yJ | 6=>w6 | 7=>yj | 8=>tG | 9=>sW | 10=>kR | 11=>jm | 12=>jw | 13=>mm | _=>ml
theorem Br (P:Params):∀j,j < 15->mw P j=hK j
 | 0,_=>xH P | 1,_=>vS P | 2,_=>uY P | 3,_=>wN P | 4,_=>vQ P | 5,_=>xP P | 6,_=>xb P | 7,_=>yy P | 8,_=>wj P | 9,_=>vH P | 10,_=>tZ P | 11,_=>to P | 12,_=>rl P | 13,_=>sy P | 14,_=>t4 P
 | n + 15,h=>absurd h (by (first | lia | omega))
noncomputable def MX (k:Nat) (a b c:Int):Int:=match k with
 | 30=>bu a b c | 31=>cb a b c | 32=>if 0<=b/\b < 999000 then kE 5 a b else 0 | 33=>kE 3 a b | 34=>if 0<=b/\b < 999000 then kE 4 a b else b | _=>ff k a b c
noncomputable def bA (l:List Int):Rho:=⟨fun i=>l.getD i 0,MX,fun zw=>[]⟩
theorem im {a c o:Int} (hc:0<=c/\c<=980000) (ho:1<=o/\o<=4):Dr (bA [a,c,o]):=by
 refine ⟨hc,ho,fun a c m hm=>bC hm,fun a c x=>?_,fun a c x=>?_⟩
 ·show -8<=(if 0<=c/\c < 999000 then kE 5 a c else 0)/\(if 0<=c/\c < 999000 then kE 5 a c else 0)<=3866630
  split
  ·rename_i h; have:=zu (a:=a) h; (first | decide | lia | omega)
  ·(first | decide | lia | omega)
 ·show c<=(if 0<=c/\c < 999000 then kE 4 a c else c)/\(if 0<=c/\c < 999000 then kE 4 a c else c)<=c + 3
  split
  ·rename_i h; have:=zu (a:=a) h; (first | decide | lia | omega)
  ·(first | decide | lia | omega)
theorem Bu {w:World} {O:Opq} {l:List Int}:ay w (bA l) O Mu 80:=ay.or (ay.le (d:=40) (d8 (ρ:=bA l) rfl rfl) (by (first | decide | lia | omega)))
 (B4 (ρ:=bA l) (fun a c x h1 h2=>if_pos ⟨h1,h2⟩) (fun zw zw zw zw zw=>rfl) fun a c x h1 h2=>if_pos ⟨h1,h2⟩)
noncomputable def MJ (i:Nat):Option Nat:=if i < 3 then some i else if i=3 then none else some (i - 1)
theorem BW (k:Nk):((ox (fF MJ) (k.T 4 10) (k.T 3 0)).map (jb (AN fun i j=>i == 10 + j && Nat.ble j 4)))=some true:=by induction k using Nk.casesOn <;> kernel_rfl
theorem FS (k:Nk):(k.T 4 10).all AO.plainA=true:=by induction k using Nk.casesOn <;> kernel_rfl
theorem BM (k:Nk):k.last < (k.T 4 10).length:=by induction k using Nk.casesOn <;> decide +kernel
def Nd.bd (nd:Nd):Prop:=∀i,-8<=nd.i i/\nd.i i<=3866630
noncomputable def wm (j:Nat) (l:List Int):Nd:=⟨AD j,[(hK j).ev (bA l) 10,(hK j).ev (bA l) 11,(hK j).ev (bA l) 12,(hK j).ev (bA l) 13,(hK j).ev (bA l) 14]⟩
section
variable {w:World} {A:Around} {gs:Array GenState} {dr:Drawn} {os:OsState} {h:Heap} {n:Nat} {g:Gr} {F:List Addr} {y:Addr} {Vs:List Value} {a c o:Int} {t:Tok}
noncomputable def Gn (h h':Heap):Gr:=fun b=>match h.get? b with | some _=>none | none=>h'.get? b
theorem uN {h':Heap} {ρ:Rho} {k:Nk} {xs:List Addr} {nd:Nd} (hF:F.length=3) (hk:nd.k=k) (hv:∀j,j<=4->ρ.v (10 + j)=nd.a.getD j 0) (C:Co w ρ (OG w g) (G1 h y) h' (u5 k) [] xs) (h4:xs.take 4=F++[y]) :
  ∃x,xs[4 + k.last]? = some x/\bQ (Gn h h') F x nd:=by
 subst hk
 obtain ⟨zs,rfl⟩:∃zs,xs=F++[y]++zs:=⟨xs.drop 4,by rw [<- h4,List.take_append_drop]⟩
 have lt:bl.length=3:=rfl
 have hlen:zs.length=(nd.k.T 4 10).length:=by
  have:=C.sz
  simp [u5,lt,hF] at this
  (first | lia | omega)
 have hl:=BM nd.k
 refine ⟨zs[nd.k.last],?_,zs,List.getElem?_eq_getElem (by (first | lia | omega)),?_⟩
 ·refine aa (List.getElem?_append_right (by simp [hF])) ?_
  simp [hF]
 have get:∀(i:Nat) u b,(nd.k.T 4 10)[i]? = some u->zs[i]? = some b->aO ρ (F++[y]++zs) (Gn h h') b u:=fun i u b eu eb=>by
  have e1:(u5 nd.k)[4 + i]? = some u:=by
   unfold u5
   refine aa (List.getElem?_append_right (by simp [lt])) ?_
   simpa [lt] using eu
  have e2:(F++[y]++zs)[4 + i]? = some b:=by
   refine aa (List.getElem?_append_right (by simp [hF])) ?_
   simpa [hF] using eb
  have pu:=List.all_eq_true.mp (FS nd.k) u (List.mem_of_getElem? eu)
  obtain ⟨x,ow⟩:=C.ob (4 + i) u b e1 e2
  have own:u.own=true:=by cases u <;> first | rfl | cases pu
  have x':aO ρ (F++[y]++zs) h'.get? b u:=by cases u <;> first | exact x | cases pu
  have ne:b≠y:=fun q=>by
   subst q
   have e3:(u5 nd.k)[3]? = some (.lst [.int (.v 8),.int (.v 9)]):=by
    unfold u5
    refine aa (List.getElem?_append_left (by simp [lt])) (aa (List.getElem?_append_right (by simp [lt])) ?_)
    rfl
   have e4:(F++[b]++zs)[3]? = some b:=by
    refine aa (List.getElem?_append_left (by simp [hF])) (aa (List.getElem?_append_right (by simp [hF])) ?_)
    simp [hF]
   have:=C.nd 3 (4 + i) _ _ b e3 e1 rfl own e4 e2
   (first | lia | omega)
  have gn:=ow own
  unfold G1 at gn
  rw [if_neg ne] at gn
  exact x'.keep .refl fun z e=>by unfold Gn; refine aa gn ?_; exact e
 obtain ⟨l,e,gd⟩:=gU (BW nd.k)
 refine oW ?_ e (hQ (ρ':=dm nd.a) (fun i j z=>(congrArg ρ.v (aD (ag z))).trans (hv j (Nat.le_of_ble_eq_true (au z)))) gd) (.of hlen fun i b u e1 e2=>get i u b e2 e1)
 intro i j e x ex
 unfold MJ at e
 split at e
 ·rename_i hi
  cases e
  rw [List.append_assoc,List.getElem?_append_left (by (first | lia | omega))] at ex
  refine aa (List.getElem?_append_left (by (first | lia | omega))) ?_; exact ex
 ·split at e
  ·exact ap e
  ·cases e
   rw [List.getElem?_append_right (by simp [hF]; (first | lia | omega))] at ex
   refine aa (List.getElem?_append_right (by (first | lia | omega))) (aa hF ?_)
   simp [hF] at ex
   refine aa (show i - 1 - 3=i - 4 by (first | lia | omega)) ?_
   exact ex
end
theorem uw {P:Nat->Prop} (h0:P 0) (h1:P 1) (h2:P 2) (h3:P 3) (h4:P 4) (h5:P 5) (h6:P 6) (h7:P 7) (h8:P 8) (h9:P 9) (h10:P 10) (h11:P 11) (h12:P 12) (h13:P 13) (h14:P 14) (j:Nat) (hj:j < 15):P j:=by
 match j,hj with
 | 0,_=>exact h0 | 1,_=>exact h1 | 2,_=>exact h2 | 3,_=>exact h3 | 4,_=>exact h4 | 5,_=>exact h5 | 6,_=>exact h6 | 7,_=>exact h7 | 8,_=>exact h8 | 9,_=>exact h9 | 10,_=>exact h10 | 11,_=>exact h11 | 12,_=>exact h12 | 13,_=>exact h13 | 14,_=>exact h14
 | n + 15,h=>(first | lia | omega)
theorem Mc {P:Nat->Prop} (h0:P 0) (h1:P 1) (h2:P 2) (h3:P 3) (h4:P 4) (i:Nat) (h:i<=4):P i:=by
 match i,h with | 0,_=>exact h0 | 1,_=>exact h1 | 2,_=>exact h2 | 3,_=>exact h3 | 4,_=>exact h4
theorem cF {α:Type} {p:α->Bool} {l:List α} {i:Nat} {a:α} (h:l.all p=true) (e:l[i]? = some a):p a=true:=List.all_eq_true.mp h a (List.mem_of_getElem? e)
theorem tL (j:Nat) (hj:j < 15):(DR j).take 4 = [0,1,2,3]:=uw (P:=fun j=>(DR j).take 4 = [0,1,2,3]) rfl rfl rfl rfl rfl rfl rfl rfl rfl rfl rfl rfl rfl rfl rfl j hj
theorem nN (j:Nat) (hj:j < 15):(hK j).sB=true :=
 uw (P:=fun j=>(hK j).sB=true) (cF (i:=0) dX rfl) (cF (i:=1) dX rfl) (cF (i:=2) dX rfl) (cF (i:=3) dX rfl) kn.1 kn.2.1 kn.2.2.1 kn.2.2.2 (cF (i:=4) dX rfl) (cF (i:=5) dX rfl) (cF (i:=6) dX rfl) (cF (i:=7) dX rfl) (cF (i:=8) dX rfl) (cF (i:=9) dX rfl) (cF (i:=10) dX rfl) j hj
section
variable {w:World} {A:Around} {gs:Array GenState} {dr:Drawn} {os:OsState} {h:Heap} {n:Nat} {g:Gr} {F:List Addr} {y:Addr} {Vs:List Value} {a c o:Int} {t:Tok}
theorem Aq (j:Nat) (hj:j < 15) (hc:0<=c/\c<=980000) (ho:1<=o/\o<=4) (hb:(j=4\/j=6->kG.den (bA [a,c,o])=0)/\(j=5\/j=7->kG.den (bA [a,c,o])=1)):(hK j).den (bA [a,c,o]) (jW 3 (bA [a,c,o]) (hK j)):=by
 have D:=im (a:=a) hc ho
 have f0:∀{j:Nat},j < 15->(hK j).wf 3=true->(hK j).den (bA [a,c,o]) (jW 3 (bA [a,c,o]) (hK j)):=fun hj w=>yP w (tS D (nN _ hj)).1
 have f1:∀{j:Nat} {n0:Int},j < 15->(hK j).wfE (.add (.c 2) kG) n0 3=true->2 + kG.den (bA [a,c,o])=n0->(hK j).den (bA [a,c,o]) (jW 3 (bA [a,c,o]) (hK j)):=fun hj w e =>
  VC.fillE (b:=3) (e0:=.add (.c 2) kG) e w (tS D (nN _ hj)).1 fun k hk=>if_neg (Nat.not_lt.mpr hk)
 have g0:∀{i j:Nat},j < 15->[qc,qF,mS,tX,tG,sW,kR,jm,jw,mm,ml][i]? = some (hK j)->(hK j).den (bA [a,c,o]) (jW 3 (bA [a,c,o]) (hK j)):=fun hj e=>f0 hj (cF Gc e)
 have e2:∀{x:Int},x=0->2 + x=2:=fun h=>by refine aa h ?_; rfl
 have e3:∀{x:Int},x=1->2 + x=3:=fun h=>by refine aa h ?_; rfl
 exact uw (P:=fun j=>((j=4\/j=6->kG.den (bA [a,c,o])=0)/\(j=5\/j=7->kG.den (bA [a,c,o])=1))->(hK j).den (bA [a,c,o]) (jW 3 (bA [a,c,o]) (hK j)))
  (fun zw=>g0 (i:=0) (by decide) rfl) (fun zw=>g0 (i:=1) (by decide) rfl) (fun zw=>g0 (i:=2) (by decide) rfl) (fun zw=>g0 (i:=3) (by decide) rfl)
  (fun hb=>f1 (by decide) km.1 (e2 (hb.1 (.inl rfl)))) (fun hb=>f1 (by decide) km.2.1 (e3 (hb.2 (.inl rfl)))) (fun hb=>f1 (by decide) km.2.2.1 (e2 (hb.1 (.inr rfl)))) (fun hb=>f1 (by decide) km.2.2.2 (e3 (hb.2 (.inr rfl))))
  (fun zw=>g0 (i:=4) (by decide) rfl) (fun zw=>g0 (i:=5) (by decide) rfl) (fun zw=>g0 (i:=6) (by decide) rfl) (fun zw=>g0 (i:=7) (by decide) rfl) (fun zw=>g0 (i:=8) (by decide) rfl) (fun zw=>g0 (i:=9) (by decide) rfl) (fun zw=>g0 (i:=10) (by decide) rfl) j hj hb
theorem zJ {α:Type} {l:List α} {x u:α} {i:Nat} (e:(l++[x])[i]? = some u):l[i]? = some u\/i=l.length/\x=u:=by
 by_cases h:i < l.length
 ·rw [List.getElem?_append_left h] at e; exact .inl e
 ·rw [List.getElem?_append_right (Nat.le_of_not_lt h)] at e
  induction q:i - l.length using Nat.casesOn with
  | zero=>rw [q] at e; exact .inr ⟨by (first | lia | omega),aF e⟩
  | succ m=>rw [q] at e; exact ap e
theorem rZ {α:Type} {l:List α} {i:Nat} {a:α} (e:l[i]? = some a):i < l.length:=(List.getElem?_eq_some_iff.mp e).1
theorem Co.tail1 {ρ:Rho} {O:Opq} {G:Gr} {T:List AO} {F:List Addr} {pc:List (CE×Bool)} {y:Addr} {o:AO} (B:gZ w G) (kp:∀b o,G b=some o->h.get? b=some o) (og:∀b o,O.g b=some o->G b=some o) (ft:All2 (fun a o=>aC ρ O (F++[y]) h a o/\o.own=false) F T)
  (x:aC ρ O (F++[y]) h y o) (gy:G y=none) (hpc:∀p∈pc,p.1.den ρ↔p.2=true):Co w ρ O G h (T++[o]) pc (F++[y]):=by
 have key:∀{i:Nat} {u:AO} {b:Addr},(T++[o])[i]? = some u->(F++[y])[i]? = some b->(aC ρ O (F++[y]) h b u/\u.own=false)\/(i=T.length/\o=u/\y=b):=fun {i u b} e e'=>by
  rcases zJ e with e | ⟨hi,ho⟩
  ·rw [List.getElem?_append_left (by refine aa ft.len ?_; exact rZ e)] at e'
   obtain ⟨u',z1,z⟩:=ft.get e'
   exact .inl (aF (z1.symm.trans e)▸z)
  ·rcases zJ e' with e' | ⟨_,hy⟩
   ·exact absurd (rZ e') (by refine aa ft.len (aa hi ?_); (first | lia | omega))
   ·exact .inr ⟨hi,ho,hy⟩
 have no:∀{u:AO},u.own=false->u.own=true->False:=fun a b=>bH (a.symm.trans b)
 refine ⟨B,kp,og,by refine aa List.length_append (aa List.length_append (aa ft.len ?_)); rfl,fun i u b e e'=>?_,fun i i' u u' b e1 e2 w1 w2 e3 e4=>?_,hpc⟩
 ·rcases key e e' with z | ⟨-,ho,hy⟩
  ·exact ⟨z.1,fun ow=>(no z.2 ow).elim⟩
  ·exact ⟨ho▸hy▸x,fun zw=>hy▸gy⟩
 ·rcases key e1 e3 with z | ⟨h1,-,-⟩
  ·exact (no z.2 w1).elim
  ·rcases key e2 e4 with z | ⟨h2,-,-⟩
   ·exact (no z.2 w2).elim
   ·exact h1.trans h2.symm
theorem J4 {F xs:List Addr} {y:Addr} (hF:F.length=3) (p:aM (F++[y]) xs) : [0,1,2,3].map (fun i=>xs.getD i 0)=F++[y]:=by
 obtain ⟨t,e⟩:=p
 refine aa e ?_
 match F,hF with
 | [_,_,_],_=>rfl
set_option tactic.hygienic true
theorem qk (j:Nat) (hj:j < 15) (Fo:aU w g F) (hg:∀b o,g b=some o->G1 h y b=some o) (B:gZ w (G1 h y)) (L:At h.get? y (.lst Vs)) (hi:IntsAre Vs [a,c]) (hc:0<=c/\c<=980000) (ho:1<=o/\o<=4)
  (hpc:∀p∈qR j,p.1.den (bA [a,c,o])↔p.2=true) (hb:(j=4\/j=6->kG.den (bA [a,c,o])=0)/\(j=5\/j=7->kG.den (bA [a,c,o])=1)) (R:Room A 120) {f1:Addr} (hf1:F[1]? = some f1) {Q:Value->Shared->Prop} {E:Value->Shared->Prop}
  (q:∀h' n' x nd a' c' Vs',(∀b o,b≠y->h.get? b=some o->h'.get? b=some o)->At h'.get? y (.lst Vs')->IntsAre Vs' [a',c']->c<=c'->c'<=c + 20->bQ (Gn h h') F x nd->nd.bd->nd=wm j [a,c,o]->Q (.ref x) ⟨h',gs,dr,n',os⟩) :
  wpAny (model pr w) A (call (.ref 871) [.ref y,.ref f1,.int o t]) Q E ⟨h,gs,dr,n,os⟩:=by
 cases hi; rename_i t0 _ hi; cases hi; rename_i t1 _ hi; cases hi
 have hF:F.length=3:=by obtain ⟨_,_,_,rfl,_⟩:=id Fo; rfl
 have lt:bl.length=3:=rfl
 have C0:Co w (bA [a,c,o]) (OG w g) (G1 h y) h (bl++[.lst [.int (.v 0),.int (.v 1)]]) (qR j) (F++[y]):=by
  have ft:=gp (w:=w) (ρ:=bA [a,c,o]) (rest:=[y]) (h:=h) Fo
  exact Co.tail1 B (fun b o e=>by unfold G1 at e; split at e; exact ap e; exact e) hg ft ⟨_,.cons ⟨t0,rfl⟩ (.cons ⟨t1,rfl⟩ .nil),L⟩ (if_pos rfl) hpc
 have ey:(F++[y])[3]? = some y:=by refine aa (List.getElem?_append_right (by (first | decide | lia | omega))) ?_; simp [hF]
 have e1:(F++[y])[1]? = some f1:=by refine aa (List.getElem?_append_left (by (first | decide | lia | omega))) ?_; exact hf1
 refine M7 (v:=.loc (4 + (AD j).last)) (ρ':=jW 3 (bA [a,c,o]) (hK j)) (r0:=80) Bu (Br w.params j hj) R C0 (.cons ⟨y,ey,rfl⟩ (.cons ⟨f1,e1,rfl⟩ (.cons ⟨t,rfl⟩ .nil))) (Aq j hj hc ho hb) fun V h' as' n' C p dv=>?_
 have h4:((DR j).map fun i=>as'.getD i 0).take 4=F++[y]:=by
  refine aa (Eq.symm List.map_take) (aa (tL j hj) ?_); exact J4 hF p
 generalize ((DR j).map fun i=>as'.getD i 0)=xs at C h4 dv
 obtain ⟨x,lx,N⟩:=uN (nd:=wm j [a,c,o]) hF rfl (fun i hi=>by
  refine aa (show (jW 3 (bA [a,c,o]) (hK j)).v (10 + i)=(hK j).ev (bA [a,c,o]) (10 + i) from if_neg (by (first | decide | lia | omega))) ?_
  exact Mc (P:=fun i=>(hK j).ev (bA [a,c,o]) (10 + i)=(wm j [a,c,o]).a.getD i 0) rfl rfl rfl rfl rfl i hi) C h4
 have lx:xs[4 + (AD j).last]? = some x:=lx
 obtain ⟨x',ex,rfl⟩:=dv
 rw [lx] at ex; cases ex
 have x3:xs[3]? = some y:=by
  have:(xs.take 4)[3]? = some y:=by refine aa h4 ?_; exact ey
  rwa [List.getElem?_take_of_lt (by (first | decide | lia | omega))] at this
 have o3:(u5 (AD j))[3]? = some (.lst [.int (.v 8),.int (.v 9)]):=by
  unfold u5
  refine aa (List.getElem?_append_left (by simp [lt])) (aa (List.getElem?_append_right (by simp [lt])) ?_)
  rfl
 obtain ⟨⟨Vs',z1,z2⟩,-⟩:=C.ob 3 _ y o3 x3
 cases z1; rename_i d0 z1; cases z1; rename_i d1 z1; cases z1
 obtain ⟨u0,rfl⟩:=d0
 obtain ⟨u1,rfl⟩:=d1
 obtain ⟨sf,gr,bd⟩:=tS (im (a:=a) hc ho) (nN j hj)
 refine q h' n' x _ _ _ _ (fun b o nb e=>C.kp b o (by unfold G1; refine aa (if_neg nb) ?_; exact e)) z2 (.cons _ _ (.cons _ _ .nil)) gr.1 gr.2 N ?_ rfl
 intro i
 show -8<=(wm j [a,c,o]).a.getD i 0/\(wm j [a,c,o]).a.getD i 0<=3866630
 by_cases hi:i<=4
 ·exact Mc (P:=fun i=>-8<=(wm j [a,c,o]).a.getD i 0/\(wm j [a,c,o]).a.getD i 0<=3866630) (bd 10 (by decide)) (bd 11 (by decide)) (bd 12 (by decide)) (bd 13 (by decide)) (bd 14 (by decide)) i hi
 ·refine aa (List.getD_eq_getElem?_getD) (aa (List.getElem?_eq_none (Nat.not_le.mp hi)) ?_); exact ⟨(by decide:(-8:Int)<=0),(by decide:(0:Int)<=3866630)⟩
set_option tactic.hygienic false
end
noncomputable def VC.iB (k:Nat) (lo hi:Int):VC->Bool
 | .ok l=>(bz k l).any fun e=>(qr e).any fun p=>decide (lo<=p.1) && decide (p.2<=hi)
 | .br c a b=>(match cT c with | true=>a.iB k lo hi | false=>a.iB k lo hi && b.iB k lo hi)
 | .req _ t=>t.iB k lo hi
 | .fail=>false
theorem gR {ρ:Rho} (D:Dr ρ) {k:Nat} {lo hi:Int} {vc:VC} (h:vc.iB k lo hi=true):lo<=vc.ev ρ k/\vc.ev ρ k<=hi:=by
 induction vc with
 | ok l =>
  obtain ⟨e,he,h⟩:=cw h
  obtain ⟨p,hp,h⟩:=cw h
  have:=c9 D hp
  have z:VC.ev ρ k (.ok l)=e.den ρ:=by unfold VC.ev; exact aa he rfl
  refine aa z ?_
  exact ⟨Int.le_trans (of_decide_eq_true (ag h)) this.1,Int.le_trans this.2 (of_decide_eq_true (au h))⟩
 | br c a b ia ib =>
  have h:(match cT c with | true=>a.iB k lo hi | false=>a.iB k lo hi && b.iB k lo hi)=true:=h
  induction q:cT c with
  | true=>rw [q] at h; refine aa (mB (tE D q)) ?_; exact ia h
  | false =>
   rw [q] at h
   rcases Classical.em (c.den ρ) with hc | hc
   ·refine aa (mB hc) ?_; exact ia (ag h)
   ·refine aa (sM hc) ?_; exact ib (au h)
 | req c t ih=>exact ih h
 | fail=>exact bH h
theorem ot : [qc,qF,jm,jw].all (VC.iB 10 97 99)=true:=by kernel_rfl
theorem kD:mS.iB 12 0 3=true/\mS.iB 14 0 3=true:=⟨by kernel_rfl,by kernel_rfl⟩
noncomputable def CB (W F G X:Nat) (e:IE):Option Int:=match e.c? with
 | some n=>some n
 | none=>if e.same pW then some W else if e.same pF then some F else if e.same pG then some G else if e.same pH then some X else none
noncomputable def Mx (W F G X:Nat) (c:CE):Option Bool:=match c with
 | .lt a b=>(aq (CB W F G X a) (CB W F G X b)).map fun p=>decide (p.1 < p.2)
 | .eq a b=>(aq (CB W F G X a) (CB W F G X b)).map fun p=>decide (p.1=p.2)
 | _=>none
noncomputable def ME (W F G X j:Nat):Bool:=(qR j).all (fun p=>Mx W F G X p.1 == some p.2) && (!(j == 4 || j == 6) || X == 0) && (!(j == 5 || j == 7) || X == 1)
theorem wt:((List.range 13).all fun W=>(List.range 2).all fun F=>(List.range 3).all fun G=>(List.range 2).all fun X=>(List.range 15).any fun j=>ME W F G X j)=true:=by kernel_rfl
theorem vC {n:Nat} {p:Nat->Bool} (h:(List.range n).all p=true) {i:Nat} (hi:i < n):p i=true:=List.all_eq_true.mp h i (List.mem_range.mpr hi)
theorem vq {e x:IE} {v:Option Int} {n m:Int} {ρ:Rho} (h:(if e.same x=true then some m else v)=some n) (hx:x.den ρ=m) (k:v=some n->e.den ρ=n):e.den ρ=n:=by
 by_cases q:e.same x=true
 ·rw [if_pos q] at h; refine aa (IE.same_ok q) (aa hx ?_); exact aF h
 ·rw [if_neg q] at h; exact k h
theorem ko {ρ:Rho} {W F G X:Nat} (hW:pW.den ρ=W) (hF:pF.den ρ=F) (hG:pG.den ρ=G) (hX:pH.den ρ=X) {e:IE} {n:Int} (h:CB W F G X e=some n):e.den ρ=n:=by
 unfold CB at h
 induction q:e.c? with
 | some m=>rw [q] at h; refine aa (bP q) ?_; exact aF h
 | none =>
  rw [q] at h
  exact vq h hW fun h=>vq h hF fun h=>vq h hG fun h=>vq h hX fun h=>ap h
theorem Ad {ρ:Rho} {W F G X:Nat} (hW:pW.den ρ=W) (hF:pF.den ρ=F) (hG:pG.den ρ=G) (hX:pH.den ρ=X) {c:CE} {b:Bool} (h:Mx W F G X c=some b):c.den ρ↔b=true:=by
 induction c using CE.casesOn <;> try exact ap h
 ·obtain ⟨p,e,h⟩:=gU h
  refine aa (Eq.symm h) ?_
  show IE.den ρ _ < IE.den ρ _↔_
  rw [ko hW hF hG hX (ah e).1,ko hW hF hG hX (ah e).2,decide_eq_true_iff]
 ·obtain ⟨p,e,h⟩:=gU h
  refine aa (Eq.symm h) ?_
  show IE.den ρ _=IE.den ρ _↔_
  rw [ko hW hF hG hX (ah e).1,ko hW hF hG hX (ah e).2,decide_eq_true_iff]
theorem Cl {ρ:Rho} {W F G X j:Nat} (hW:pW.den ρ=W) (hF:pF.den ρ=F) (hG:pG.den ρ=G) (hX:pH.den ρ=X) (h:ME W F G X j=true):(∀p∈qR j,p.1.den ρ↔p.2=true)/\(j=4\/j=6->kG.den ρ=0)/\(j=5\/j=7->kG.den ρ=1):=by
 have hX:kG.den ρ=X:=hX
 refine ⟨fun p m=>Ad hW hF hG hX (aD (List.all_eq_true.mp (ag (ag h)) p m)),fun z=>?_,fun z=>?_⟩
 ·have y:=au (ag h)
  refine aa hX ?_
  rcases z with z | z <;> · rw [z] at y; exact congrArg Nat.cast (aD y)
 ·have y:=au h
  refine aa hX ?_
  rcases z with z | z <;> · rw [z] at y; exact congrArg Nat.cast (aD y)
theorem ky {x:Int} {n:Nat} (h:0<=x/\x<=n):∃m:Nat,m < n + 1/\x=m:=⟨x.toNat,by (first | lia | omega),by (first | lia | omega)⟩
section
variable {w:World} {A:Around} {gs:Array GenState} {dr:Drawn} {os:OsState} {h:Heap} {n:Nat} {g:Gr} {F:List Addr} {y:Addr} {Vs:List Value} {a c o:Int} {t:Tok}
theorem Cb (j:Nat) (hj:j < 15) (hc:0<=c/\c<=980000) (ho:1<=o/\o<=4):(wm j [a,c,o]).ok:=by
 have D:=im (a:=a) hc ho
 refine uw (P:=fun j=>(wm j [a,c,o]).ok) (gR D (cF (i:=0) ot rfl)) (gR D (cF (i:=1) ot rfl)) ?_ trivial trivial trivial trivial trivial trivial trivial trivial (gR D (cF (i:=2) ot rfl)) (gR D (cF (i:=3) ot rfl)) trivial trivial j hj
 exact ⟨(gR D kD.1).1,(gR D kD.1).2,(gR D kD.2).1,(gR D kD.2).2⟩
theorem tM (Fo:aU w g F) (hg:∀b o,g b=some o->G1 h y b=some o) (B:gZ w (G1 h y)) (L:At h.get? y (.lst Vs)) (hi:IntsAre Vs [a,c]) (hc:0<=c/\c<=980000) (ho:1<=o/\o<=4) (R:Room A 120) {f1:Addr} (hf1:F[1]? = some f1) {Q:Value->Shared->Prop} {E:Value->Shared->Prop}
  (q:∀h' n' x nd a' c' Vs',(∀b o,b≠y->h.get? b=some o->h'.get? b=some o)->At h'.get? y (.lst Vs')->IntsAre Vs' [a',c']->c<=c'->c'<=c + 20->bQ (Gn h h') F x nd->nd.bd->nd.ok->nd.k≠.pck->Q (.ref x) ⟨h',gs,dr,n',os⟩) :
  wpAny (model pr w) A (call (.ref 871) [.ref y,.ref f1,.int o t]) Q E ⟨h,gs,dr,n,os⟩:=by
 have D:=im (a:=a) hc ho
 have go:∀j,j < 15->(∀p∈qR j,p.1.den (bA [a,c,o])↔p.2=true)->((j=4\/j=6->kG.den (bA [a,c,o])=0)/\(j=5\/j=7->kG.den (bA [a,c,o])=1))->wpAny (model pr w) A (call (.ref 871) [.ref y,.ref f1,.int o t]) Q E ⟨h,gs,dr,n,os⟩:=fun j hj hpc hb =>
  qk j hj Fo hg B L hi hc ho hpc hb R hf1 fun h' n' x nd a' c' Vs' k l i g1 g2 N b e=>q h' n' x nd a' c' Vs' k l i g1 g2 N b (by refine aa e ?_; exact Cb j hj hc ho) (by
   refine aa e ?_; exact uw (P:=fun j=>AD j≠.pck) nofun nofun nofun nofun nofun nofun nofun nofun nofun nofun nofun nofun nofun nofun nofun j hj)
 apply bc;intro ng
 obtain ⟨W,w1,hW⟩:=ky (c9 D (e:=pW) (p:=(0,12)) (by kernel_rfl))
 obtain ⟨X,x1,hF⟩:=ky (c9 D (e:=pF) (p:=(0,1)) (by kernel_rfl))
 obtain ⟨Y,y1,hG⟩:=ky (c9 D (e:=pG) (p:=(0,2)) (by kernel_rfl))
 obtain ⟨Z,z1,hZ⟩:=ky (c9 D (e:=pH) (p:=(0,1)) (by kernel_rfl))
 obtain ⟨j,hj,k⟩:=List.any_eq_true.mp (vC (vC (vC (vC wt w1) x1) y1) z1)
 apply ng;clear ng
 have z:=Cl hW hF hG hZ k
 exact go j (List.mem_range.mp hj) z.1 z.2
end
noncomputable def Nd.flat (nd:Nd):List Nd:=match nd.k with
 | .dsc0=>[] | .dsc1=>[⟨.chr,[nd.i 0]⟩] | .dsc2=>[⟨.chr,[nd.i 0]⟩,⟨.krn,[nd.i 1,0]⟩] | _=>[nd]
theorem J6 {a x:Int} (h:0<=a):max a x=max a (max 0 x):=by rw [<- Int.max_assoc,Int.max_eq_left h]
theorem MB {a x:Int} (h:0<=a):max (max a x) 0=max a (max 0 (max x 0)):=by rw [<- J6 h,Int.max_assoc]
theorem pR {nd:Nd} {t:Tot} (h0:0<=t.H) (h1:0<=t.D):nd.flat.foldl Tot.add t=t.add nd:=by
 have z:∀x:Int,x=x + 0:=fun x=>(Int.add_zero x).symm
 have y:∀x:Int,x + 0 + 0=x + 0:=fun x=>Int.add_zero _
 match nd with
 | ⟨k,a⟩ =>
 induction k with
 | dsc0=>exact Tot.ext' ⟨(Int.max_eq_left h0).symm,(Int.max_eq_left h1).symm,z _,z _,z _,z _,z _,z _,z _,z _,z _⟩
 | dsc1=>exact Tot.ext' ⟨J6 h0,J6 h1,rfl,rfl,rfl,rfl,rfl,rfl,rfl,rfl,rfl⟩
 | dsc2=>exact Tot.ext' ⟨MB h0,MB h1,Int.add_assoc _ _ _,y _,y _,y _,y _,y _,y _,y _,y _⟩
 | _=>rfl
theorem iN:∀(l:List Nd) {t:Tot},0<=t.H->0<=t.D->(l.flatMap Nd.flat).foldl Tot.add t=l.foldl Tot.add t
 | [],_,_,_=>rfl
 | a::l,t,h0,h1=>by
  refine aa List.flatMap_cons (aa List.foldl_append (aa (pR h0 h1) (aa List.foldl_cons ?_)))
  exact iN l (Int.le_trans h0 (Int.le_max_left _ _)) (Int.le_trans h1 (Int.le_max_left _ _))
theorem fP (l:List Nd):ad (l.flatMap Nd.flat)=ad l:=iN l (Int.le_refl _) (Int.le_refl _)
theorem wO {B:Bx} {nd:Nd}:aE (Nd.fl B) nd.flat=nd.fl B:=by
 obtain ⟨k,a⟩:=nd
 cases k <;> first | rfl | (simp only [Nd.flat,aE,List.map_cons,List.map_nil,List.sum_cons,List.sum_nil]; simp [Nd.fl])
theorem lZ {B:Bx}:∀l:List Nd,aE (Nd.fl B) (l.flatMap Nd.flat)=aE (Nd.fl B) l
 | []=>rfl
 | a::l=>by
  rw [List.flatMap_cons,iV,lZ l,wO]
  simp [aE]
theorem nV (l:List Nd):(ad l).n=aE Nd.w l:=by rw [cM]
theorem pN {B:Bx} (h:B.ok) (l:List Nd):(av B (l.flatMap Nd.flat)).getLast? = (av B l).getLast?:=by
 rw [fE h,fE h,lZ,<- nV,<- nV,fP]
structure Tot.fit (t:Tot) (m:Nat):Prop where
 H:0<=t.H/\t.H<=8000000
 D:0<=t.D/\t.D<=8000000
 n : -8 * (m:Int)<=t.n/\t.n<=3900000 * m
 s:∀x,x∈[t.s0,t.s1,t.s2,t.s3,t.r0,t.r1,t.r2,t.r3]->-8 * (m:Int)<=x/\x<=3900000 * m
theorem zS (c:Int):4<=fW c/\fW c<=11:=by unfold fW; split; decide; split <;> decide
theorem Jg (c:Int):1<=fH c/\fH c<=7:=by unfold fH; split; decide; split <;> decide
theorem Hv (c:Int):0<=fD c/\fD c<=9:=by unfold fD; split; decide; split <;> decide
theorem zc {p:Prop} [Decidable p] {x:Int} (h : -8<=x/\x<=3900000) : -8<=(if p then x else 0)/\(if p then x else 0)<=3900000:=by split; exact h; decide
theorem iP {a b m:Int} (h:a<=m) (k:b<=m):max a b<=m:=Int.max_le.mpr ⟨h,k⟩
theorem Ft {x y:Int} (a:x<=3866630) (b : -8<=y):x - y<=8000000:=by omega
theorem Dz {x y:Int} (a:x<=3866630) (b:y<=3866630):x + y<=8000000:=by omega
theorem KW {c y:Int} (b : -8<=y/\y<=3866630) : -8<=fW c + y/\fW c + y<=3900000:=by have:=zS c; omega
theorem z7 {nd:Nd} (b:nd.bd) (np:nd.k≠.pck):nd.h<=8000000/\nd.d<=8000000/\(-8<=nd.w/\nd.w<=3900000)/\∀k,(-8<=nd.st k/\nd.st k<=3900000)/\(-8<=nd.sh k/\nd.sh k<=3900000):=by
 have z:(0:Int)<=8000000:=by decide
 have z2 : -8<=(0:Int)/\(0:Int)<=3900000:=by decide
 have s:∀k:Int,(-8<=(0:Int)/\(0:Int)<=3900000)/\-8<=(0:Int)/\(0:Int)<=3900000:=fun zw=>⟨z2,z2⟩
 have bb:∀j,-8<=nd.i j/\nd.i j<=3900000:=fun j=>⟨(b j).1,Int.le_trans (b j).2 (by decide)⟩
 have w0 : -8<=fW (nd.i 0)/\fW (nd.i 0)<=3900000:=⟨Int.le_trans (by decide) (zS _).1,Int.le_trans (zS _).2 (by decide)⟩
 have h0:fH (nd.i 0)<=8000000:=Int.le_trans (Jg _).2 (by decide)
 have d0:fD (nd.i 0)<=8000000:=Int.le_trans (Hv _).2 (by decide)
 have hb:nd.i 1 - nd.i 3<=8000000:=Ft (b 1).2 (b 3).1
 have db:nd.i 2 + nd.i 3<=8000000:=Dz (b 2).2 (b 3).2
 have w2:=KW (c:=nd.i 0) (b 1)
 match nd with
 | ⟨k,a⟩ =>
 induction k with
 | chr=>exact ⟨h0,d0,w0,s⟩
 | skp=>exact ⟨z,z,bb 0,fun k=>⟨zc (bb 1),zc (bb 3)⟩⟩
 | box2=>exact ⟨hb,db,bb 0,s⟩
 | box3=>exact ⟨hb,db,bb 0,s⟩
 | pck=>exact absurd rfl np
 | rul4=>exact ⟨z,show (4:Int)<=8000000 by decide,bb 0,s⟩
 | dsc0=>exact ⟨z,z,z2,s⟩
 | pen=>exact ⟨z,z,z2,s⟩
 | dsc1=>exact ⟨iP z h0,iP z d0,w0,s⟩
 | dsc2=>exact ⟨iP z (iP h0 z),iP z (iP d0 z),w2,s⟩
 | _=>exact ⟨z,z,bb 0,s⟩
theorem zn {x y:Int} (a:0<=x/\x<=8000000) (b:y<=8000000):0<=max x y/\max x y<=8000000:=⟨Int.le_trans a.1 (Int.le_max_left _ _),iP a.2 b⟩
theorem f6 {x y:Int} {m:Nat} (a : -8 * (m:Int)<=x/\x<=3900000 * m) (b : -8<=y/\y<=3900000) : -8 * ((m + 1:Nat):Int)<=x + y/\x + y<=3900000 * (m + 1:Nat):=by omega
theorem EQ {p:Int->Prop} {a b c d e f g h:Int} (l:p a/\p b/\p c/\p d/\p e/\p f/\p g/\p h):∀x,x∈[a,b,c,d,e,f,g,h]->p x:=by simpa using l
theorem Gw {p:Int->Prop} {a b c d e f g h:Int} (l:∀x,x∈[a,b,c,d,e,f,g,h]->p x):p a/\p b/\p c/\p d/\p e/\p f/\p g/\p h:=by simpa using l
theorem vt {t:Tot} {m:Nat} {nd:Nd} (f:t.fit m) (b:nd.bd) (np:nd.k≠.pck):(t.add nd).fit (m + 1) :=
 let ⟨h,d,w,z⟩:=z7 b np
 let ⟨g1,g2,g3,g4,g5,g6,g7,g8⟩:=Gw f.s
 ⟨zn f.H h,zn f.D d,f6 f.n w,EQ ⟨f6 g1 (z 0).1,f6 g2 (z 1).1,f6 g3 (z 2).1,f6 g4 (z 3).1,f6 g5 (z 0).2,f6 g6 (z 1).2,f6 g7 (z 2).2,f6 g8 (z 3).2⟩⟩
theorem lE:∀(l:List Nd) {t:Tot} {m:Nat},t.fit m->(∀nd∈l,nd.bd/\nd.k≠.pck)->(l.foldl Tot.add t).fit (m + l.length)
 | [],_,_,f,_=>f
 | a::l,t,m,f,h=>by
  have:=lE l (vt f (h a (.head _)).1 (h a (.head _)).2) fun b mb=>h b (.tail _ mb)
  refine aa List.foldl_cons (aa List.length_cons ?_)
  refine aa (show m + (l.length + 1)=m + 1 + l.length by (first | lia | omega)) ?_; exact this
theorem jp {l:List Nd} (h:∀nd∈l,nd.bd/\nd.k≠.pck):(ad l).fit l.length:=by
 have z:∀x:Int,x∈[0,0,0,0,0,0,0,0]->-8 * ((0:Nat):Int)<=x/\x<=3900000 * (0:Nat):=EQ (p:=fun x=>-8 * ((0:Nat):Int)<=x/\x<=3900000 * (0:Nat)) (by decide)
 have:=lE l (t:=.zero) (m:=0) ⟨by decide,by decide,(z 0 (.head _)),z⟩ h
 rwa [Nat.zero_add] at this
theorem FN {x:Int} {m:Nat} (a : -8 * (m:Int)<=x/\x<=3900000 * m) (hm:m<=20) : -160<=x/\x<=78000000:=by omega
theorem Dc {x:Int} (a:0<=x/\x<=8000000) : -1073741823<=x/\x<=1073741823:=by omega
theorem Lz {x y:Int} (a : -160<=x/\x<=78000000) (b : -100000000<=y/\y<=100000000) : -1073741823<=x + y/\x + y<=1073741823:=by omega
theorem sD {t:Tot} {m:Nat} (f:t.fit m) (hm:m<=20) {mode am:Int} (md:mode=0\/mode=1) (ha : -100000000<=am/\am<=100000000):HpOk t mode am :=
 ⟨md,⟨Int.le_trans (by decide) ha.1,Int.le_trans ha.2 (by decide)⟩,fun zw=>Lz (FN f.n hm) ha,Dc f.H,Dc f.D,Int.lt_of_le_of_lt (FN (Gw f.s).1 hm).2 (by decide),Int.lt_of_le_of_lt (FN (Gw f.s).2.2.2.2.1 hm).2 (by decide)⟩
noncomputable def aI (t:Tot) (e:Int):Bx:=⟨bh t e 12,bh t e 13,bh t e 14,bh t e 15⟩
theorem cI {t:Tot} {m:Nat} (f:t.fit m) (hm:m<=20) {e:Int} (he : -400000000<=e/\e<=400000000):(aI t e).ok:=by
 have l:∀{x:Int},-8 * (m:Int)<=x/\x<=3900000 * m->-(2 ^ 90) < x/\x < 2 ^ 90:=fun a=>⟨Int.lt_of_lt_of_le (by decide) (FN a hm).1,Int.lt_of_le_of_lt (FN a hm).2 (by decide)⟩
 let ⟨g1,g2,g3,g4,g5,g6,g7,g8⟩:=Gw f.s
 have z:=ym (t:=t) (e:=e) (fun k h1 h2=>match k,h1,h2 with
  | 3,_,_=>l g1 | 4,_,_=>l g2 | 5,_,_=>l g3 | 6,_,_=>l g4 | 7,_,_=>l g5 | 8,_,_=>l g6 | 9,_,_=>l g7 | 10,_,_=>l g8
  | k + 11,_,h=>absurd h (by omega)) ⟨Int.lt_of_lt_of_le (by decide) he.1,Int.lt_of_le_of_lt he.2 (by decide)⟩
 exact ⟨z.1,z.2.1,z.2.2⟩
theorem tJ {t:Tot}:aI t 0=⟨0,0,0,1⟩:=by
 unfold aI; exact aa ((wA t).1) (aa ((wA t).2.1) (aa ((wA t).2.2.1) (aa ((wA t).2.2.2.1) rfl)))
theorem hM.le {g g':Gr} {t:Addr} {ns:List Int} (k:∀a o,g a=some o->g' a=some o) (x:hM g t ns):hM g' t ns:=let ⟨Vs,i,l⟩:=x; ⟨Vs,i,l.le (k _)⟩
theorem mQ.le {w:World} {g g':Gr} {d:Addr} (k:∀a o,g a=some o->g' a=some o) (x:mQ w g d):mQ w g' d :=
 let ⟨t1,t2,t3,D,a,b,c⟩:=x; ⟨t1,t2,t3,D.le (k _),a.le k,b.le k,c.le k⟩
theorem aU.le {w:World} {g g':Gr} {F:List Addr} (k:∀a o,g a=some o->g' a=some o) (x:aU w g F):aU w g' F:=by
 apply bc;intro ng
 obtain ⟨f0,f1,f2,e,a,b,c⟩:=x
 apply ng;clear ng
 exact ⟨f0,f1,f2,e,a.keep .refl (k _),b.keep .refl (k _),c.le k⟩
theorem bQ.le {g g':Gr} {F:List Addr} {a:Addr} {nd:Nd} (k:∀a o,g a=some o->g' a=some o) (x:bQ g F a nd):bQ g' F a nd:=by
 obtain ⟨as2,e,z⟩:=x
 exact ⟨as2,e,z.mono fun zw zw q=>q.keep .refl (k _)⟩
section
variable {w:World} {ρ:Rho} {O:Opq} {G:Gr} {env:Env} {h h':Heap} {s:St} {ob:List AO} {pc:List (CE×Bool)} {as:List Addr}
theorem Co.adds {us:List AO} {ys:List Addr} (S:Co w ρ O G h ob pc as) (k:h.StaysIn h') (sz:ys.length=us.length) (nd:ys.Nodup)
  (nw:∀(t:Nat) u a,us[t]? = some u->ys[t]? = some a->aO ρ (as++ys) h'.get? a u/\h.get? a=none):Co w ρ O G h' (ob++us) pc (as++ys):=by
 have cs:∀(i:Nat) o a,(ob++us)[i]? = some o->(as++ys)[i]? = some a->(ob[i]? = some o/\as[i]? = some a)\/∃j,i=as.length + j/\us[j]? = some o/\ys[j]? = some a:=fun i o a e e'=>by
  by_cases hi:i < ob.length
  ·rw [List.getElem?_append_left hi] at e
   rw [List.getElem?_append_left (by refine aa S.sz ?_; exact hi)] at e'
   exact .inl ⟨e,e'⟩
  ·rw [List.getElem?_append_right (by omega)] at e
   rw [List.getElem?_append_right (by refine aa S.sz ?_; omega),S.sz] at e'
   exact .inr ⟨i - ob.length,by refine aa S.sz ?_; omega,e,e'⟩
 have old:∀(i:Nat) o a,ob[i]? = some o->as[i]? = some a->o.own=true->∃x,h.get? a=some x:=fun i o a e e' ow=>by
  have x:=(S.ob i o a e e').1
  cases o with
  | lst vs=>obtain ⟨_,_,_,z,_⟩:=x; exact ⟨_,z⟩
  | tup vs=>obtain ⟨_,_,_,z,_⟩:=x; exact ⟨_,z⟩
  | ns vs=>obtain ⟨_,_,_,z,_⟩:=x; exact ⟨_,z⟩
  | inst C j=>obtain ⟨_,_,_,z,_⟩:=x; exact ⟨_,z⟩
  | cell v=>obtain ⟨_,_,_,z,_⟩:=x; exact ⟨_,z⟩
  | il b es=>obtain ⟨_,_,_,z,_⟩:=x; exact ⟨_,z⟩
  | pl vs=>obtain ⟨_,_,_,z,_⟩:=x; exact ⟨_,z⟩
  | raw t=>obtain ⟨_,z,_⟩:=x; exact ⟨_,z⟩
  | rf b=>obtain ⟨_,z,_⟩:=x; exact ⟨_,z⟩
  | dc ps=>obtain ⟨_,_,_,_,z,_⟩:=x; exact ⟨_,z⟩
  | lit j i=>obtain ⟨_,_,_,z,_⟩:=x; exact ⟨_,z⟩
  | tit j i=>obtain ⟨_,_,_,z,_⟩:=x; exact ⟨_,z⟩
  | opq k=>exact bH ow
  | dead=>exact bH ow
  | fz o=>exact bH ow
 refine ⟨S.bs,fun a o e=>k _ _ (S.kp a o e),S.og,by simp [S.sz,sz],fun i o a e e'=>?_,fun i i' o o' a e1 e2 w1 w2 e3 e4=>?_,S.pc⟩
 ·rcases cs i o a e e' with ⟨f1,f2⟩ | ⟨j,rfl,f2,f3⟩
  ·obtain ⟨x,y⟩:=S.ob i o a f1 f2
   exact ⟨x.keep ⟨_,rfl⟩ fun zw zw ex=>k _ _ ex,y⟩
  ·obtain ⟨z1,z2⟩:=nw j o a f2 f3
   refine ⟨aO.at (G:=h'.get?) (fun zw e=>e) z1,fun zw=>?_⟩
   induction q:G a with
   | none=>rfl
   | some x=>have:=S.kp _ _ q; rw [z2] at this; exact ap this
 ·rcases cs i o a e1 e3 with ⟨f1,f2⟩ | ⟨j,rfl,f2,f3⟩
  ·rcases cs i' o' a e2 e4 with ⟨g1,g2⟩ | ⟨j',rfl,g2,g3⟩
   ·exact S.nd i i' o o' a f1 g1 w1 w2 f2 g2
   ·obtain ⟨x,ex⟩:=old i o a f1 f2 w1
    rw [(nw j' o' a g2 g3).2] at ex; exact ap ex
  ·rcases cs i' o' a e2 e4 with ⟨g1,g2⟩ | ⟨j',rfl,g2,g3⟩
   ·obtain ⟨x,ex⟩:=old i' o' a g1 g2 w2
    rw [(nw j o a f2 f3).2] at ex; exact ap ex
   ·exact aa ((List.getElem?_inj (List.getElem?_eq_some_iff.mp f3).1 nd).mp (f3.trans g3.symm)) rfl
theorem Co.link {ρ':Rho} {O':Opq} {us0 us:List AO} {xs:List Addr} {js:List Nat} {mp:Nat->Option Nat} (S:Co w ρ O G h ob pc as) (N:Co w ρ' O' h.get? h' us0 [] xs) (jn:js.Nodup) (hj:(js.all fun j=>(us0[j]?).any AO.own)=true)
  (hl:us.length=js.length) (hm:Mp mp xs (as++js.map fun j=>xs.getD j 0)) {ls:List Ob1} (re:cH mp us0 js us=some ls) (hp:us.all AO.plainA=true) (o:bE ρ' ρ ls):Co w ρ O G h' (ob++us) pc (as++js.map fun j=>xs.getD j 0):=by
 have at':∀(t:Nat) a,(js.map fun j=>xs.getD j 0)[t]? = some a->∃j o,js[t]? = some j/\us0[j]? = some o/\o.own=true/\xs[j]? = some a:=fun t a e=>by
  rw [List.getElem?_map] at e
  induction q:js[t]? with
  | none=>rw [q] at e; exact ap e
  | some j =>
   rw [q] at e
   have z:=List.all_eq_true.mp hj j (List.mem_of_getElem? q)
   apply bc;intro ng
   obtain ⟨u,z1,z2⟩:=(Option.any_eq_true _ _).mp z
   apply ng;clear ng
   have lx:j < xs.length:=by refine aa N.sz ?_; exact (List.getElem?_eq_some_iff.mp z1).1
   refine ⟨j,u,rfl,z1,z2,?_⟩
   simp only [Option.map_some,Option.some.injEq] at e
   refine aa (Eq.symm e) (aa (List.getElem?_eq_getElem lx) ?_)
   simp [List.getD,List.getElem?_eq_getElem lx]
 refine S.adds (fun b o e=>N.kp b o e) (by simp [hl]) ?_ fun t u a e e'=>?_
 ·refine List.pairwise_iff_getElem.mpr fun i j hi hj' hij e=>?_
  have ea:=List.getElem?_eq_getElem hi
  apply bc;intro ng
  obtain ⟨j1,o1,p1,p2,p3,p4⟩:=at' i _ ea
  obtain ⟨j2,o2,q1,q2,q3,q4⟩:=at' j _ ((List.getElem?_eq_getElem hj').trans (congrArg some e.symm))
  apply ng;clear ng
  have:=N.nd j1 j2 o1 o2 _ p2 q2 p3 q3 p4 q4
  subst this
  have:=(List.getElem?_inj (List.getElem?_eq_some_iff.mp p1).1 jn).mp (p1.trans q1.symm)
  (first | lia | omega)
 ·obtain ⟨j,o1,z1,z2,z3,z4⟩:=at' t a e'
  apply bc;intro ng
  obtain ⟨-,r2⟩:=eI hm N.sz (fun i o a e e'=>(N.ob i o a e e').1) re o
  obtain ⟨j',o',a',y1,y2,y3,y4,-⟩:=r2 t u e
  apply ng;clear ng
  rw [z1] at y1; cases y1
  rw [z4] at y3; cases y3
  refine ⟨?_,((N.ob j o1 a z2 z4).2 z3)⟩
  have pu:=List.all_eq_true.mp hp u (List.mem_of_getElem? e)
  cases u <;> first | exact y4 | cases pu
noncomputable def mt (h:Heap) (L:Addr) (ks:List Addr):Gr:=fun b=>if b=L\/b∈ks then none else h.get? b
noncomputable def AO.fzd:AO->AO
 | .lst vs=>.fz (.lst vs) | .tup vs=>.fz (.tup vs) | .ns fs=>.fz (.ns fs) | .inst C j=>.fz (.inst C j) | .il b es=>.fz (.il b es) | .pl vs=>.fz (.pl vs) | .rf b=>.fz (.rf b) | .dc ps=>.fz (.dc ps) | .fz o=>.fz o | _=>.dead
noncomputable def hA (keep:List Nat):Nat->List AO->List AO
 | _,[]=>[]
 | n,o::r=>(if keep.contains n && o.own then o else o.fzd)::hA keep (n + 1) r
theorem pw {keep:List Nat}:∀{l:List AO} {n i:Nat},(hA keep n l)[i]? = (l[i]?).map fun o=>if keep.contains (n + i) && o.own then o else o.fzd
 | [],_,i=>by simp [hA]
 | o::r,n,0=>by simp [hA]
 | o::r,n,i + 1=>by
  have:=pw (keep:=keep) (l:=r) (n:=n + 1) (i:=i)
  simp only [hA,List.getElem?_cons_succ,this,show n + 1 + i=n + (i + 1) by (first | lia | omega)]
noncomputable def bY (ob:List AO) (as:List Addr) (j:Nat):Option Addr:=match ob[j]? with | some o=>if o.own then as[j]? else none | none=>none
theorem Av {G':Gr} {a:Addr} {o:AO} (x:aC ρ O as h a o) (k:o.own=true->∀x,h.get? a=some x->G' a=some x) (k2:∀x,O.g a=some x->G' a=some x):aC ρ (OG w G') as h a o.fzd:=by
 induction o using AO.casesOn with
 | lst vs=>exact aO.keep (o:=.lst vs) .refl (k rfl) x
 | tup vs=>exact aO.keep (o:=.tup vs) .refl (k rfl) x
 | ns vs=>exact aO.keep (o:=.ns vs) .refl (k rfl) x
 | inst C j=>exact aO.keep (ρ:=ρ) (o:=.inst C j) .refl (k rfl) x
 | il b es=>exact aO.keep (as:=as) (o:=.il b es) .refl (k rfl) x
 | pl vs=>exact aO.keep (o:=.pl vs) .refl (k rfl) x
 | rf b=>exact aO.keep (ρ:=ρ) (as:=as) (o:=.rf b) .refl (k rfl) x
 | dc ps=>exact aO.keep (o:=.dc ps) .refl (k rfl) x
 | fz o=>exact aO.keep .refl k2 x
 | _=>trivial
set_option tactic.hygienic true
theorem SR.grow (S:SR w ρ O G env h s as) (keep:List Nat):SR w ρ (OG w (mt h env.locals (keep.filterMap (bY s.ob as)))) (mt h env.locals (keep.filterMap (bY s.ob as))) env h { s with ob:=hA keep 0 s.ob } as:=by
 have mk:∀a,a∈keep.filterMap (bY s.ob as)->∃(j:Nat) (o:AO),j∈keep/\s.ob[j]? = some o/\o.own=true/\as[j]? = some a:=fun a m=>by
  apply bc;intro ng
  obtain ⟨j,mj,e⟩:=List.mem_filterMap.mp m
  apply ng;clear ng
  unfold bY at e
  split at e
  ·rename_i o eo
   split at e
   ·rename_i ow; exact ⟨j,o,mj,eo,ow,e⟩
   ·exact ap e
  ·exact ap e
 have up:∀a o,G a=some o->mt h env.locals (keep.filterMap (bY s.ob as)) a=some o:=fun a o e=>by
  unfold mt
  rw [if_neg]
  ·exact S.kp a o e
  ·rintro (q | q)
   ·rw [q,S.fL] at e; exact ap e
   ·obtain ⟨j,o',_,e1,e2,e3⟩:=mk a q
    rw [((S.ob j o' a e1 e3).2 e2).2] at e; exact ap e
 have fr:∀(i:Nat) o a,s.ob[i]? = some o->as[i]? = some a->o.own=true->i ∉ keep->∀x,h.get? a=some x->mt h env.locals (keep.filterMap (bY s.ob as)) a=some x:=fun i o a e e' ow nk x ex=>by
  unfold mt
  rw [if_neg]
  ·exact ex
  ·rintro (q | q)
   ·exact ((S.ob i o a e e').2 ow).1 q
   ·obtain ⟨j,o',m,e1,e2,e3⟩:=mk a q
    rw [S.nd i j o o' a e e1 ow e2 e' e3] at nk
    exact nk m
 have get:∀(i:Nat) o,(hA keep 0 s.ob)[i]? = some o->∃o0,s.ob[i]? = some o0/\o=if keep.contains i && o0.own then o0 else o0.fzd:=fun i o e=>by
  rw [pw,Nat.zero_add] at e
  apply bc;intro ng
  obtain ⟨o0,e1,e2⟩:=Option.map_eq_some_iff.mp e
  apply ng;clear ng
  exact ⟨o0,e1,e2.symm⟩
 have fzo:∀o:AO,o.fzd.own=false:=fun o=>by induction o using AO.casesOn <;> rfl
 apply bc;intro ng
 obtain ⟨hb,W,kb⟩:=S.bs
 apply ng;clear ng
 have lf:∀{l:List AO} {n:Nat},(hA keep n l).length=l.length:=fun {l}=>by
  induction l with | nil=>exact rfl | cons o r ih=>intro n; exact congrArg (· + 1) ih
 refine ⟨⟨hb,W,fun a o e=>up a o (kb a o e)⟩,fun a o e=>?_,fun a o e=>e,?_,S.eg,S.eb,S.ek,S.lc,S.cc,by show _=(hA keep 0 s.ob).length; exact aa lf (aa S.sz rfl),fun i o a e e'=>?_,fun i j o o' a e1 e2 w1 w2 e3 e4=>?_,S.pc⟩
 ·unfold mt at e; split at e
  ·exact ap e
  ·exact e
 ·unfold mt; exact aa (if_pos (.inl rfl)) rfl
 ·obtain ⟨o0,e0,rfl⟩:=get i o e
  apply bc;intro ng
  obtain ⟨x,y⟩:=S.ob i o0 a e0 e'
  apply ng;clear ng
  by_cases c:keep.contains i=true/\o0.own=true
  ·refine aa (if_pos (by rw [c.1,c.2]; rfl)) ?_
   refine ⟨by cases o0 <;> first | exact x | (cases c.2),fun zw=>⟨(y c.2).1,?_⟩⟩
   refine if_pos (.inr (List.mem_filterMap.mpr ⟨i,by simpa using c.1,?_⟩))
   unfold bY; refine aa e0 ?_; dsimp only; refine aa (if_pos c.2) ?_; exact e'
  ·refine aa (if_neg (by simpa using c)) ?_
   refine ⟨?_,fun z=>by rw [fzo] at z; exact bH z⟩
   exact Av x (fun ow=>fr i o0 a e0 e' ow fun m=>c ⟨by simpa using m,ow⟩) fun z ez=>up a z (S.og a z ez)
 ·obtain ⟨o0,f1,rfl⟩:=get i o e1
  apply bc;intro ng
  obtain ⟨o0',f2,rfl⟩:=get j o' e2
  apply ng;clear ng
  have own:∀(i:Nat) (o:AO),(if keep.contains i && o.own then o else o.fzd).own=true->o.own=true:=fun i o z=>by
   split at z
   ·exact z
   ·rw [fzo] at z; exact bH z
  exact S.nd i j o0 o0' a f1 f2 (own _ _ w1) (own _ _ w2) e3 e4
set_option tactic.hygienic false
end
noncomputable def yA (j k:Nat) (m e:IE):AV:=.int (.fn (100 + j) (.c k) m e)
noncomputable def Gv (i k n:Nat) (m e:IE):List AO:=[.tup [yA 16 k m e,yA 17 k m e],
 .ns [(S' "ratio",.loc n),(S' "order",yA 15 k m e),(S' "sign",yA 14 k m e),(S' "shift",.int (.c 0)),(S' "items",.loc i),(S' "depth",yA 1 k m e),(S' "height",yA 0 k m e),(S' "width",yA 13 k m e),(S' "kind",.int (.c 2))],
 .inst 389 (n + 1),.tup [yA 18 k m e,yA 19 k m e],.tup [.loc (n + 2),.loc (n + 3)]]
noncomputable def Mh (i n:Nat):Nat->Option Nat | 0=>some n | 1=>some i | 2=>some (n + 1) | 3=>some (n + 2) | 4=>some (n + 3) | 5=>some (n + 4) | _=>none
noncomputable def qG (k:Nat) (m e:IE):List Ob1:=[.ie (.v 16) (.fn 116 (.c k) m e),.ie (.v 17) (.fn 117 (.c k) m e),.ie (.v 15) (.fn 115 (.c k) m e),.ie (.v 14) (.fn 114 (.c k) m e),.ie (.c 0) (.c 0),.ie (.v 1) (.fn 101 (.c k) m e),.ie (.v 0) (.fn 100 (.c k) m e),
 .ie (.v 13) (.fn 113 (.c k) m e),.ie (.c 2) (.c 2),.ie (.v 18) (.fn 118 (.c k) m e),.ie (.v 19) (.fn 119 (.c k) m e)]
theorem AL (q i k n:Nat) (m e:IE):cH (Mh i n) (xd q) [0,2,3,4,5] (Gv i k n m e)=some (qG k m e):=by
 refine gA rfl (l1:=(qG k m e).take 2) rfl (gA rfl (l1:=((qG k m e).drop 2).take 7) ?_ (gA rfl (l1:=[]) (Em rfl) (gA rfl (l1:=(qG k m e).drop 9) rfl (gA rfl (l1:=[]) ?_ (l2:=[]) rfl))))
 ·exact iA (l1:=[]) (oJ rfl) (iA (l1:=[_]) rfl (iA (l1:=[_]) rfl (iA (l1:=[_]) rfl (iA (l1:=[]) (oJ rfl) rfl))))
 ·exact iA (l1:=[]) (oJ rfl) (iA (l1:=[]) (oJ rfl) (l2:=[]) rfl)
noncomputable def CX (cs:List Nat):Hk:=fun a args ob=>((be args).bind AV.l?).bind fun i=>((ob[i]?).bind AO.rf?).bind fun k=>if a == 673 && cs.contains k then some ([],.loc (ob.length + 4),ob++Gv i k ob.length (.c 1) (.c 0)) else none
noncomputable def L6 (l:List AV):Option (AV×AV×AV):=match l with | []=>none | a::r=>(d9 r).map fun p=>(a,p)
noncomputable def DK (cs:List Nat):Hk:=fun a args ob=>(L6 args).bind fun p=>p.1.l?.bind fun i=>(aq p.2.1.i? p.2.2.i?).bind fun m=>((ob[i]?).bind AO.rf?).bind fun k =>
 if a == 673 && cs.contains k then some ([.le (.c 0) m.1,.le m.1 (.c 1),.le (.c (-100000000)) m.2,.le m.2 (.c 100000000)],.loc (ob.length + 4),ob++Gv i k ob.length m.1 m.2) else none
noncomputable def MN (cs:List Nat):Hk:=fun a args ob=>match CX cs a args ob with | some r=>some r | none=>DK cs a args ob
noncomputable def J7 (k:Nat) (b:IE):Option IE:=match b.v? with | some j=>if Nat.ble 2 j && Nat.ble j 5 then some (.fn (118 + j) (.c k) (.c 0) (.c 0)) else none | none=>b.c?.map .c
noncomputable def M6 (k:Nat) (o:Ob1):Option CE:=o.ie?.bind fun p=>(J7 k p.2).map (.eq p.1)
noncomputable def wY (k:Nat):List Ob1->Option (List CE) | []=>some [] | o::r=>(M6 k o).bind fun c=>(wY k r).map (c :: ·)
noncomputable def MF:List AO:=[.tup [.int (.v 4),.int (.v 5)],.ns [(S' "ratio",.loc 6),(S' "order",.int (.v 3)),(S' "sign",.int (.v 2)),(S' "shift",.any),(S' "items",.loc 3),(S' "depth",.any),(S' "height",.any),(S' "width",.any),(S' "kind",.int (.c 2))],.inst 389 7]
noncomputable def Gz (n m i:Nat):Option Nat:=if i=n then some 6 else if i=n + 1 then some 7 else if i=m then some 3 else none
noncomputable def My (cs:List Nat):Hk:=fun a args ob=>((be args).bind AV.l?).bind fun i=>((((ob[i - 1]?).bind AO.ns?).bind (·.lookup (S' "items"))).bind AV.l?).bind fun m=>((ob[m]?).bind AO.rf?).bind fun k=>(cH (Gz (i - 2) m) ob [i - 2,i - 1,i] MF).bind fun l=>(wY k l).bind fun c =>
 if a == 644 && (cs.contains k && (Nat.ble 2 i && (decide (m≠i - 2) && decide (m≠i - 1)))) then some (c,.loc ob.length,ob++[.il (200 + k) []]) else none
structure LawE (w:World) (g:Gr) (F:List Addr) (ρ:Rho) (cs:List Nat) (N:Nat->List Nd) (B:Nat->Bx):Prop where
 fo:aU w g F
 it:∀k∈cs,All2 (fun V nd=>∃x,V = .ref x/\bQ g F x nd/\nd.ok) ((ρ.l k).map ak) (N k)
 fit:∀k∈cs,(ad (N k)).fit 20
 len:∀k∈cs,(N k).length<=800
 hp:∀k∈cs,∀j,j < 20->∀m e,ρ.f (100 + j) k m e=(mG (ad (N k)) (N k).isEmpty m e).getD j 0
 bx:∀k∈cs,ρ.f 120 k 0 0=(B k).s/\ρ.f 121 k 0 0=(B k).o/\ρ.f 122 k 0 0=(B k).p/\ρ.f 123 k 0 0=(B k).q/\(B k).ok
 pl:∀k∈cs,ρ.l (200 + k)=(bw (B k) (N k)).out
section
variable {w:World} {ρ:Rho} {g:Gr} {F:List Addr} {cs:List Nat} {N:Nat->List Nd} {B:Nat->Bx}
theorem LawE.items (L:LawE w g F ρ cs N B) {k:Nat} (hk:k∈cs) {g':Gr} (le:∀a o,g a=some o->g' a=some o) {a:Addr} (l:At g' a (.lst ((ρ.l k).map ak))):Items g' F a ((ρ.l k).map ak) (N k) :=
 ⟨l,(L.it k hk).mono fun zw zw ⟨x,e,n,o⟩=>⟨x,e,n.le le,o⟩⟩
theorem oX (L:LawE w g F ρ cs N B) {k:Nat} (hk:k∈cs) {m e:IE}:bE (gj (mG (ad (N k)) (N k).isEmpty (m.den ρ) (e.den ρ))) ρ (qG k m e):=by
 have z:=fun j (hj:j < 20)=>(L.hp k hk j hj (m.den ρ) (e.den ρ)).symm
 exact ⟨z 16 (by decide),z 17 (by decide),z 15 (by decide),z 14 (by decide),rfl,z 1 (by decide),z 0 (by decide),z 13 (by decide),rfl,z 18 (by decide),z 19 (by decide)⟩
theorem oo {O O':Opq} {G:Gr} {h h':Heap} {ob:List AO} {pc:List (CE×Bool)} {as xs:List Addr} {i k q:Nat} {m e:IE} {a:Addr} {V:Value} {L0:List Int} (S:Co w ρ O G h ob pc as) (C:Co w (gj L0) O' h.get? h' (xd q) [] xs) (e1:xs[1]? = some a) (e2:as[i]? = some a)
  (dv:Dn (gj L0) xs (.loc 5) V) (o:bE (gj L0) ρ (qG k m e)):∃as',aM as as'/\Co w ρ O G h' (ob++Gv i k ob.length m e) pc as'/\Dn ρ as' (.loc (ob.length + 4)) V:=by
 have hl:xs.length=6:=C.sz
 have hm:Mp (Mh i ob.length) xs (as++[0,2,3,4,5].map fun j=>xs.getD j 0):=by
  intro i0 j0 ej x ex
  have nw:∀t,([0,2,3,4,5].map fun j=>xs.getD j 0)[t]? = some x->(as++[0,2,3,4,5].map fun j=>xs.getD j 0)[ob.length + t]? = some x:=fun t z=>by
   rw [List.getElem?_append_right (by rw [S.sz]; exact Nat.le_add_right _ _),S.sz,Nat.add_sub_cancel_left]; exact z
  match i0,ej with
  | 0,ej=>exact aF ej▸nw 0 (congrArg some (bG ex))
  | 1,ej=>exact aF ej▸aM.get ⟨_,rfl⟩ (e2.trans (e1.symm.trans ex))
  | 2,ej=>exact aF ej▸nw 1 (congrArg some (bG ex))
  | 3,ej=>exact aF ej▸nw 2 (congrArg some (bG ex))
  | 4,ej=>exact aF ej▸nw 3 (congrArg some (bG ex))
  | 5,ej=>exact aF ej▸nw 4 (congrArg some (bG ex))
  | n + 6,ej=>exact ap ej
 refine ⟨_,⟨_,rfl⟩,S.link C (js:=[0,2,3,4,5]) (by decide) rfl rfl hm (AL q i k ob.length m e) rfl o,?_⟩
 exact bS (ρ:=gj L0) (v:=.loc 5) (l:=[]) hm (mK rfl) trivial dv
theorem mN {k:Nat} (h:cs.contains k=true):k∈cs:=List.contains_iff_mem.mp h
theorem LawE.lk (L:LawE w g F ρ cs N B) {G:Gr} {h:Heap} {ob:List AO} {pc:List (CE×Bool)} {as:List Addr} (S:Co w ρ (OG w g) G h ob pc as) {i k:Nat} {a:Addr} (e1:(ob[i]?).bind AO.rf? = some k) (ea:as[i]? = some a) (hk:k∈cs):Items h.get? F a ((ρ.l k).map ak) (N k):=by
 apply bc;intro ng
 obtain ⟨o,e2,e3⟩:=az e1
 rw [mq e3] at e2
 exact ng (L.items hk (fun a o z=>S.kp _ _ (S.og _ _ z)) (At.pl (S.ob i _ a e2 ea).1))
theorem DN {l:List AV} {p:AV×AV×AV} (h:L6 l=some p):l = [p.1,p.2.1,p.2.2]:=by
 induction l using List.casesOn with
 | nil=>exact ap h
 | cons a r =>
  apply bc;intro ng
  obtain ⟨q,e1,e2⟩:=Option.map_eq_some_iff.mp h
  rw [cq e1,<- e2] at ng
  exact ng rfl
theorem wS (L:LawE w g F ρ cs N B):ay w ρ (OG w g) (CX cs) 81:=by
 intro f args ob ces v ob' e hcs A gs dr os G h pc n as Us Q Er R S da q
 apply bc;intro ng
 obtain ⟨i,ei,e⟩:=az e
 obtain ⟨u,eu,ei⟩:=az ei
 obtain ⟨k,e1,e⟩:=az e
 obtain ⟨hc,e⟩:=cU e
 cases e
 rw [ba eu,bN ei] at da
 obtain ⟨b,hU,x,ex,hx⟩:=da.one
 have hk:=mN (au hc)
 rw [hU,hx,aD (ag hc)] at ng
 exact ng (Ac S.wd (fun zw zw e=>e) (L.fo.le fun a o z=>S.kp _ _ (S.og _ _ z)) (L.lk S e1 ex hk) (sD (L.fit k hk) (by decide) (.inr rfl) (by decide)) R fun V h' n' xs q0 C e1 dv =>
  let ⟨as',p,M,d⟩:=oo (m:=.c 1) (e:=.c 0) S C e1 ex dv (oX (m:=.c 1) (e:=.c 0) L hk); q V h' as' n' M p d)
theorem so {a:Int} (h:0<=a) (k:a<=1):a=0\/a=1 :=
 (Int.lt_or_le a 1).elim (fun l=>.inl (Int.le_antisymm (Int.le_of_lt_add_one l) h)) fun l=>.inr (Int.le_antisymm k l)
theorem yM (L:LawE w g F ρ cs N B):ay w ρ (OG w g) (DK cs) 81:=by
 intro f args ob ces v ob' e hcs A gs dr os G h pc n as Us Q Er R S da q
 apply bc;intro ng
 obtain ⟨p,ep,e⟩:=az e
 obtain ⟨i,ei,e⟩:=az e
 obtain ⟨m,em,e⟩:=az e
 obtain ⟨k,e1,e⟩:=az e
 obtain ⟨hc,e⟩:=cU e
 cases e
 rw [DN ep,bN ei,cP (ah em).1,cP (ah em).2] at da
 obtain ⟨b,r,hU,⟨x,ex,hx⟩,da⟩:=da.c
 obtain ⟨b2,b3,hr,⟨t2,h2⟩,t3,h3⟩:=da.two
 have hk:=mN (au hc)
 rw [hU,hr,hx,h2,h3,aD (ag hc)] at ng
 exact ng (Cm S.wd (fun zw zw e=>e) (L.fo.le fun a o z=>S.kp _ _ (S.og _ _ z)) (L.lk S e1 ex hk) (sD (L.fit k hk) (by decide) (so (hcs _ (.head _)) (hcs _ (.tail _ (.head _)))) ⟨hcs _ (.tail _ (.tail _ (.head _))),hcs _ (.tail _ (.tail _ (.tail _ (.head _))))⟩) R fun V h' n' xs q0 C e1 dv =>
  let ⟨as',p,M,d⟩:=oo (m:=m.1) (e:=m.2) S C e1 ex dv (oX (m:=m.1) (e:=m.2) L hk); q V h' as' n' M p d)
theorem um (L:LawE w g F ρ cs N B):ay w ρ (OG w g) (MN cs) 81:=ay.or (wS L) (yM L)
theorem BV {k:Nat} {ρ':Rho} (h:∀j,2<=j->j<=5->ρ.f (118 + j) k 0 0=ρ'.v j) {b e:IE} (x:J7 k b=some e):e.den ρ=b.den ρ':=by
 unfold J7 at x
 induction q:b.v? with
 | some j =>
  rw [q] at x
  have x:=cU x
  refine aa (Eq.symm (aF x.2)) (aa (dT q) ?_)
  exact h j (Nat.le_of_ble_eq_true (ag x.1)) (Nat.le_of_ble_eq_true (au x.1))
 | none =>
  rw [q] at x
  apply bc;intro ng
  obtain ⟨n,e1,e2⟩:=Option.map_eq_some_iff.mp x
  rw [<- e2,bP e1] at ng
  exact ng rfl
theorem vp {k:Nat} {ρ':Rho} (h:∀j,2<=j->j<=5->ρ.f (118 + j) k 0 0=ρ'.v j) {l:List Ob1}:∀{c:List CE},wY k l=some c->(∀x∈c,x.den ρ)->bE ρ ρ' l:=by
 induction l with
 | nil=>intro _ _ _; trivial
 | cons o r ih =>
  intro c e hc
  apply bc;intro ng
  obtain ⟨c1,e1,e⟩:=az e
  obtain ⟨c2,e2,e3⟩:=Option.map_eq_some_iff.mp e
  obtain ⟨p,e4,e5⟩:=az e1
  obtain ⟨b',e6,e7⟩:=Option.map_eq_some_iff.mp e5
  rw [<- e3] at hc
  have z:=hc c1 (.head _)
  rw [<- e7] at z
  refine ng (bE.cons.mpr ⟨?_,ih e2 fun x m=>hc x (.tail _ m)⟩)
  refine aa (ud e4) ?_
  exact (show p.1.den ρ=b'.den ρ from z).trans (BV h e6)
theorem EV {O:Opq} {G:Gr} {h:Heap} {ob:List AO} {pc:List (CE×Bool)} {as:List Addr} {i m k:Nat} {x am:Addr} {l:List Ob1} {c:List CE} (S:Co w ρ O G h ob pc as) (h2:2<=i) (ex:as[i]? = some x) (eM:as[m]? = some am) (Bk:Bx) (b1:ρ.f 120 k 0 0=Bk.s) (b2:ρ.f 121 k 0 0=Bk.o) (b3:ρ.f 122 k 0 0=Bk.p) (b4:ρ.f 123 k 0 0=Bk.q)
  (e3:cH (Gz (i - 2) m) ob [i - 2,i - 1,i] MF=some l) (e4:wY k l=some c) (hcs:∀x∈c,x.den ρ):Ao h.get? am x Bk:=by
 have li:i < as.length:=(List.getElem?_eq_some_iff.mp ex).1
 have l1:i - 1 < as.length:=Nat.lt_of_le_of_lt (Nat.sub_le _ _) li
 have l2:i - 2 < as.length:=Nat.lt_of_le_of_lt (Nat.sub_le _ _) li
 have s1:i - 2 + 1=i - 1:=by omega
 refine ⟨as[i - 2],as[i - 1],fun as' ρ' a3 a6 a7 v2 v3 v4 v5=>?_⟩
 have hm:Mp (Gz (i - 2) m) as as':=by
  intro i0 j0 ej y ey
  unfold Gz at ej
  by_cases z:i0=i - 2
  ·rw [if_pos z] at ej
   rw [z,List.getElem?_eq_getElem l2] at ey
   exact aF ej▸aF ey▸a6
  ·rw [if_neg z] at ej
   by_cases z1:i0=i - 2 + 1
   ·rw [if_pos z1] at ej
    rw [z1,s1,List.getElem?_eq_getElem l1] at ey
    exact aF ej▸aF ey▸a7
   ·rw [if_neg z1] at ej
    have z2:=ET ej
    rw [z2.1] at ey
    exact z2.2▸(a3.trans (eM.symm.trans ey))
 apply bc;intro ng
 obtain ⟨-,r2⟩:=eI hm S.sz (fun i o a e e'=>(S.ob i o a e e').1) e3 (vp (ρ':=ρ') (fun j h1 h2=>match j,h1,h2 with
  | 2,_,_=>b1.trans v2.symm | 3,_,_=>b2.trans v3.symm | 4,_,_=>b3.trans v4.symm | 5,_,_=>b4.trans v5.symm | j + 6,_,h=>absurd h (by omega)) e4 hcs)
 obtain ⟨j,o,a,y1,y2,y3,y4,-⟩:=r2 0 _ rfl
 rw [<- aF y1,List.getElem?_eq_getElem l2] at y3
 rw [<- aF y3] at y4
 obtain ⟨j,o,a,y1,y2,y3,y5,-⟩:=r2 1 _ rfl
 rw [<- aF y1,List.getElem?_eq_getElem l1] at y3
 rw [<- aF y3] at y5
 obtain ⟨j,o,a,y1,y2,y3,y6,-⟩:=r2 2 _ rfl
 rw [<- aF y1,ex] at y3
 rw [<- aF y3] at y6
 exact ng ⟨y4,y5,y6⟩
theorem th (L:LawE w g F ρ cs N B):ay w ρ (OG w g) (My cs) 41:=by
 intro f args ob ces v ob' e hcs A gs dr os G h pc n as Us Q Er R S da q
 have kg:∀a o,g a=some o->h.get? a=some o:=fun a o z=>S.kp _ _ (S.og _ _ z)
 apply bc;intro ng
 obtain ⟨i,ei,e⟩:=az e
 obtain ⟨u,eu,ei⟩:=az ei
 obtain ⟨m,e1,e⟩:=az e
 obtain ⟨k,e2,e⟩:=az e
 obtain ⟨l,e3,e⟩:=az e
 obtain ⟨c,e4,e⟩:=az e
 obtain ⟨hc,e⟩:=cU e
 cases e
 rw [ba eu,bN ei] at da
 obtain ⟨b,hU,x,ex,hx⟩:=da.one
 have hk:=mN (ag (au hc))
 obtain ⟨b1,b2,b3,b4,bo⟩:=L.bx k hk
 obtain ⟨om,em,er⟩:=az e2
 have lm:m < as.length:=by refine aa S.sz ?_; exact (List.getElem?_eq_some_iff.mp em).1
 have eM:as[m]? = some as[m]:=List.getElem?_eq_getElem lm
 rw [hU,hx,aD (ag hc)] at ng
 refine ng (oR S.wd (fun zw zw e=>e) (L.fo.le kg) (L.lk S e2 eM hk) (EV S (Nat.le_of_ble_eq_true (ag (au (au hc)))) ex eM (B k) b1 b2 b3 b4 e3 e4 hcs) bo (L.len k hk) R fun V h' n' xs C dv=>?_); clear ng
 have hm:Mp (fun z=>if z=5 then some ob.length else none) xs (as++[5].map fun j=>xs.getD j 0):=by
  intro i0 j0 ej y ey
  have z2:=ET ej
  rw [z2.1] at ey
  rw [<- z2.2,List.getElem?_append_right (by rw [S.sz]; exact Nat.le_refl _),S.sz,Nat.sub_self]
  exact congrArg some (bG ey)
 refine q V h' _ n' (S.link C (js:=[5]) (us:=[.il (200 + k) []]) (ls:=[.il 0 [] (200 + k) []]) (by decide) rfl rfl hm (by kernel_rfl) rfl ?_) ⟨_,rfl⟩ (bS (ρ:=cf (B k) (bw (B k) (N k)) []) (v:=.loc 5) (l:=[]) hm (mK rfl) trivial dv)
 exact congrArg (·++[]) (L.pl k hk).symm
end
noncomputable def strip (l:List Addr) (G:Gr):Gr:=fun b=>if b∈l then none else G b
def jr (l:List Addr) (L:Addr) (ob:List AO) (as:List Addr):Prop:=∀a∈l,a≠L/\∀(i:Nat) o,ob[i]? = some o->o.own=true->as[i]?≠some a
def bf (G G':Gr):Prop:=∀a o,G a=some o->G' a=some o
theorem bf.add {G:Gr} {h:Heap} {l:List Addr} (f:∀a∈l,G a=none):bf G (G.add h l):=fun a o e=>by
 unfold Gr.add
 refine aa (if_neg fun m=>by rw [f a m] at e; cases e) ?_; exact e
theorem bf.strip {G G':Gr} {l:List Addr} (f:∀a∈l,G a=none) (k:bf G G'):bf G (Mine.strip l G'):=fun a o e=>by
 unfold Mine.strip
 rw [if_neg fun m=>by rw [f a m] at e; cases e]; exact k a o e
section
variable {w:World} {ρ:Rho} {O:Opq} {G G2:Gr} {env:Env} {h h':Heap} {s:St} {as:List Addr} {l:List Addr}
theorem SR.off (S:SR w ρ O G env h s as) (f:∀a∈l,G a=none) (o:jr l env.locals s.ob as) (k:∀b x,b ∉ l->h.get? b=some x->h'.get? b=some x):SR w ρ O G env h' s as:=by
 apply bc;intro ng
 obtain ⟨fn,⟨oL,es,ep,l2,l3⟩,l1⟩:=S.lc
 apply ng;clear ng
 refine ⟨S.bs,fun a x e=>k a x (fun m=>by rw [f a m] at e; exact ap e) (S.kp a x e),S.og,S.fL,S.eg,S.eb,S.ek,⟨fn,⟨oL,es,ep,k _ _ (fun m=>(o _ m).1 rfl) l2,l3⟩,l1⟩,S.cc,S.sz,fun i x a e e'=>?_,S.nd,S.pc⟩
 apply bc;intro ng
 obtain ⟨z1,z2⟩:=S.ob i x a e e'
 apply ng;clear ng
 exact ⟨z1.keep .refl fun ow y ey=>k a y (fun m=>(o a m).2 i x e ow e') ey,z2⟩
theorem SR.pin (S:SR w ρ O G env h s as) (o:jr l env.locals s.ob as) (f:∀a∈l,G a=none):SR w ρ O (G.add h l) env h s as:=by
 have le:=bf.add (h:=h) f
 obtain ⟨hb,W,kb⟩:=S.bs
 refine ⟨⟨hb,W,fun a x e=>le a x (kb a x e)⟩,fun a x e=>?_,fun a x e=>le a x (S.og a x e),?_,S.eg,S.eb,S.ek,S.lc,S.cc,S.sz,fun i x a e e'=>⟨(S.ob i x a e e').1,fun ow=>⟨((S.ob i x a e e').2 ow).1,?_⟩⟩,S.nd,S.pc⟩
 ·unfold Gr.add at e; split at e
  ·exact e
  ·exact S.kp a x e
 ·unfold Gr.add
  rw [if_neg fun m=>(o _ m).1 rfl]; exact S.fL
 ·unfold Gr.add
  rw [if_neg fun m=>(o _ m).2 i x e ow e']; exact ((S.ob i x a e e').2 ow).2
theorem SR.unpin {G0:Gr} (S:SR w ρ O G2 env h s as) (b0:∃hb,Wd w hb/\∀a o,hb.get? a=some o->G0 a=some o) (og:bf O.g G0) (f:∀a∈l,G0 a=none) (le:bf G0 G2) (ex:∀a∈l,∃o,G2 a=some o)
  (k:∀b x,b ∉ l->h.get? b=some x->h'.get? b=some x):SR w ρ O (strip l G2) env h' s as/\jr l env.locals s.ob as/\bf G0 (strip l G2)/\∀a∈l,strip l G2 a=none:=by
 have le':=bf.strip f le
 have o:jr l env.locals s.ob as:=fun a m=>by
  apply bc;intro ng
  obtain ⟨x,ex⟩:=ex a m
  apply ng;clear ng
  refine ⟨fun q=>by rw [q,S.fL] at ex; (exact ap ex),fun i y e ow e'=>?_⟩
  rw [((S.ob i y a e e').2 ow).2] at ex; exact ap ex
 have sn:∀a,G2 a=none->strip l G2 a=none:=fun a e=>by unfold strip; split; rfl; exact e
 have f2:∀a∈l,strip l G2 a=none:=fun a m=>by unfold strip; exact aa (if_pos m) rfl
 apply bc;intro ng
 obtain ⟨hb,W,kb⟩:=b0
 apply ng;clear ng
 refine ⟨SR.off ⟨⟨hb,W,fun a x e=>le' a x (kb a x e)⟩,fun a x e=>?_,fun a x e=>le' a x (og a x e),sn _ S.fL,S.eg,S.eb,S.ek,S.lc,S.cc,S.sz,fun i x a e e'=>⟨(S.ob i x a e e').1,fun ow=>⟨((S.ob i x a e e').2 ow).1,sn _ ((S.ob i x a e e').2 ow).2⟩⟩,S.nd,S.pc⟩ f2 o k,o,le',f2⟩
 unfold strip at e; split at e
 ·exact ap e
 ·exact S.kp a x e
noncomputable def dA (h:Heap) (L:Addr) (ob:List AO) (as:List Addr):Gr:=fun b=>if b=L\/b∈(List.range ob.length).filterMap (bY ob as) then none else h.get? b
set_option tactic.hygienic true
theorem dF {ob:List AO} {as:List Addr} {b:Addr}:b∈(List.range ob.length).filterMap (bY ob as)↔∃(i:Nat) (o:AO),ob[i]? = some o/\o.own=true/\as[i]? = some b:=by
 rw [List.mem_filterMap]
 constructor
 ·rintro zq11
  apply bc;intro ng
  obtain ⟨i,_,e⟩:=zq11
  apply ng;clear ng
  unfold bY at e
  split at e
  ·rename_i o eo
   split at e
   ·rename_i ow; exact ⟨i,o,eo,ow,e⟩
   ·exact ap e
  ·exact ap e
 ·rintro zq12
  apply bc;intro ng
  obtain ⟨i,o,eo,ow,e⟩:=zq12
  apply ng;clear ng
  refine ⟨i,List.mem_range.mpr (List.getElem?_eq_some_iff.mp eo).1,?_⟩
  unfold bY; refine aa eo ?_; dsimp only; refine aa (if_pos ow) ?_; exact e
set_option tactic.hygienic false
theorem SR.wide (S:SR w ρ O G env h s as):SR w ρ O (dA h env.locals s.ob as) env h s as/\bf G (dA h env.locals s.ob as):=by
 have up:bf G (dA h env.locals s.ob as):=fun a o e=>by
  unfold dA
  rw [if_neg]
  ·exact S.kp a o e
  ·rintro (q | q)
   ·rw [q,S.fL] at e; exact ap e
   ·obtain ⟨i,x,e1,e2,e3⟩:=dF.mp q
    rw [((S.ob i x a e1 e3).2 e2).2] at e; exact ap e
 obtain ⟨hb,W,kb⟩:=S.bs
 refine ⟨⟨⟨hb,W,fun a o e=>up a o (kb a o e)⟩,fun a o e=>?_,fun a o e=>up a o (S.og a o e),?_,S.eg,S.eb,S.ek,S.lc,S.cc,S.sz,fun i o a e e'=>⟨(S.ob i o a e e').1,fun ow=>⟨((S.ob i o a e e').2 ow).1,?_⟩⟩,S.nd,S.pc⟩,up⟩
 ·unfold dA at e; split at e
  ·exact ap e
  ·exact e
 ·unfold dA; exact aa (if_pos (.inl rfl)) rfl
 ·unfold dA; exact aa (if_pos (.inr (dF.mpr ⟨i,o,e,ow,e'⟩))) rfl
theorem SR.take (S:SR w ρ O G env h s as) {a:Addr} {ao:AO} (f:G a=none) (o:jr [a] env.locals s.ob as) (y:aC ρ O (as++[a]) h a ao):SR w ρ O G env h { s with ob:=s.ob++[ao] } (as++[a]):=by
 apply bc;intro ng
 obtain ⟨o1,o2⟩:=o a (.head _)
 obtain ⟨fn,N,l1⟩:=S.lc
 apply ng;clear ng
 refine ⟨S.bs,S.kp,S.og,S.fL,S.eg,S.eb,S.ek,⟨fn,N,fun x v e=>let ⟨V,z1,z2⟩:=l1 x v e; ⟨V,z1,z2.pre ⟨_,rfl⟩⟩⟩,fun x i e=>let ⟨b,z1,z2⟩:=S.cc x i e; ⟨b,aM.get ⟨_,rfl⟩ z1,z2⟩,by simp [S.sz],fun i x b e e'=>?_,fun i j x x' b e1 e2 w1 w2 e3 e4=>?_,S.pc⟩
 ·rcases bT S.sz i x b e e' with ⟨f1,f2⟩ | ⟨f1,rfl,rfl⟩
  ·obtain ⟨z1,z2⟩:=S.ob i x b f1 f2
   exact ⟨z1.keep ⟨_,rfl⟩ (fun zw x e=>e),z2⟩
  ·exact ⟨y,fun zw=>⟨o1,f⟩⟩
 ·rcases bT S.sz i x b e1 e3 with ⟨f1,f2⟩ | ⟨f1,rfl,rfl⟩
  ·rcases bT S.sz j x' b e2 e4 with ⟨g1,g2⟩ | ⟨g1,rfl,rfl⟩
   ·exact S.nd i j x x' b f1 g1 w1 w2 f2 g2
   ·exact absurd f2 (o2 i x f1 w1)
  ·rcases bT S.sz j x' _ e2 e4 with ⟨g1,g2⟩ | ⟨g1,rfl,-⟩
   ·exact absurd g2 (o2 j x' g1 w2)
   ·(first | lia | omega)
end
structure Nxt (w:World) (G:Gr) (it:Addr) (N:Nat) (J:Nat->Heap->Prop) (P:Nat->Value->Prop):Prop where
 item:∀{i:Nat} {A:Around} {E:Value->Shared->Prop} {st:Shared} {Q:Option Value->Shared->Prop},i < N->J i st.heap->bf G st.heap.get?->(∀h' V n',J (i + 1) h'->Heap.SameBut it st.heap h'->P i V->Q (some V) ⟨h',st.gens,st.drawn,n',st.os⟩)->wpAny (model pr w) A (pyNext (.ref it)) Q E st
 stop:∀{A:Around} {E:Value->Shared->Prop} {st:Shared} {Q:Option Value->Shared->Prop},A.handled=none->J N st.heap->bf G st.heap.get?->(∀h',Heap.ExtBut it st.heap h'->Q none { st with heap:=h' })->wpAny (model pr w) A (pyNext (.ref it)) Q E st
 self:∀{i:Nat} {A:Around} {E:Value->Shared->Prop} {st:Shared} {Q:Value->Shared->Prop},J i st.heap->Q (.ref it) st->wpAny (model pr w) A (pyIter (.ref it)) Q E st
 keep:∀{i:Nat} {h h':Heap},J i h->(∀o,h.get? it=some o->h'.get? it=some o)->J i h'
 ex:∀{i:Nat} {h:Heap},J i h->∃o,h.get? it=some o/\∀vs m,o.data≠.seq vs m
theorem Nxt.list {w:World} {G:Gr} {it l:Addr} {Vs:List Value} (L:At G l (.lst Vs)):Nxt w G it Vs.length (fun i h=>h.IsListIter it l i) fun i V=>Vs[i]? = some V:=by
 have hl:∀{h:Heap},bf G h.get?->h.IsList l Vs.toArray:=fun k=>L.le (k l)
 refine ⟨fun {i A E st Q} hi j k q=>?_,fun {A E st Q} hh j k q=>?_,fun j q=>wpAny_pyIter_listiter j q,fun j k=>?_,fun j=>?_⟩
 ·exact wpAny_pyNext_list_item j (hl k) (x:=Vs[i]) (by simp [hi]) fun h' j' hs=>q h' _ st.toks j' hs (List.getElem?_eq_getElem hi)
 ·exact wpAny_pyNext_list_end hh j (hl k) (by simp) q
 ·obtain ⟨o,e,z⟩:=j; exact ⟨o,k o e,z⟩
 ·obtain ⟨o,e,_,z⟩:=j; exact ⟨o,e,fun vs m q=>by rw [z] at q; cases q⟩
theorem Nxt.range {w:World} {G:Gr} {it:Addr} {N:Nat}:Nxt w G it N (fun i h=>IsRangeIter h it i (N - i) 1) fun zw zw=>True:=by
 refine ⟨fun {i A E st Q} hi j k q=>?_,fun {A E st Q} hh j k q=>?_,fun j q=>wpAny_pyIter_rangeiter j q,fun j k=>k _ j,fun j=>⟨_,j,fun vs m q=>by cases q⟩⟩
 ·exact wpAny_pyNext_range_item j (by omega) fun h' j' hs=>q h' _ _ (by
   have e:((i:Int) + 1)=((i + 1:Nat):Int):=by omega
   have e2:((N:Int) - i - 1)=(N:Int) - ((i + 1:Nat):Int):=by omega
   rw [e,e2] at j'; exact j') hs trivial
 ·exact wpAny_pyNext_range_end hh j (by omega) q
section
variable {w:World} {ρ0:Rho} {O:Opq} {G:Gr} {env:Env} {A:Around} {gs:Array GenState} {dr:Drawn} {os:OsState} {Er:Value->Shared->Prop} {Q:Value->Shared->Prop}
def Cr (w:World) (A:Around) (Er Q:Value->Shared->Prop) (env:Env) (csc:Scope) (Res:List (Str×Addr)) (elt:Expr) (x:Str) (px:Pos) (iter:Expr) (pos:Pos) (use:Option (Value->Sem Unit)) (it:Value) (st:Shared):Prop :=
 wpAny (model pr w) A (newList []) (fun acc s₃=>wpAny (model pr w) A (newFunctionEnv csc env.globals Res [] env.qual none .none (some env)) (fun cenv s₄ =>
  codeAny (model pr w) A (.compStart (.ListComp elt [⟨.Name x px,iter,[],0⟩] csc pos) 0 it acc { cenv with scope:=relabel csc env }) (compPost (model pr w) A Er use Q acc cenv.locals) s₄) Er s₃) Er st
theorem rI {x:Str} {px:Pos} {elt iter:Expr} {csc:Scope} {pos:Pos} {cls cl:List (Str×Nat)} {as:List Addr} (hok:cW csc x=true) (hset:cp iter=false) (hcl:eK cls csc.names []=some cl) (hcc:∀x i,cls.lookup x=some i->∃a,as[i]? = some a/\env.cells.lookup x=some a) :
  ∃Res,(∀x i,cl.lookup x=some i->∃a,as[i]? = some a/\Res.lookup x=some a)/\∀{A:Around} {Er Q:Value->Shared->Prop} {st:Shared},
   wpAny (model pr w) A (eval iter env) (fun v s₁=>wpAny (model pr w) A (pyIter v) (fun it s₂=>Cr w A Er Q env csc Res elt x px iter pos none it s₂) Er s₁) Er st->wpAny (model pr w) A (eval (.ListComp elt [⟨.Name x px,iter,[],0⟩] csc pos) env) Q Er st:=by
 have ck:=eO hok
 apply bc;intro ng
 obtain ⟨Res,r1,r2⟩:=fG hcc hcl
 apply ng;clear ng
 refine ⟨Res,r2,fun {A Er Q st} h=>?_⟩
 rw [eval_ListComp]
 exact wpAny_comprehension_free (use:=none) rfl (dH hset) r1 ck.2.1 ck.2.2.1 h
theorem jF {p:Addr->Prop} {x y:Addr} (h1:p x) (h2:p y):∀a∈[x,y],p a:=fun a m=>by
 cases m with
 | head=>exact h1
 | tail _ m=>refine aa (List.mem_singleton.mp m) ?_; exact h2
theorem r9 {use:Option (Value->Sem Unit)} {d:Nat} (hR:Room A d) {x:Str} {px:Pos} {elt iter:Expr} {csc:Scope} {pos:Pos} {cl:List (Str×Nat)} {Res:List (Str×Addr)} {s:St} {h:Heap} {n:Nat} {as:List Addr} {it:Addr} {N:Nat} {J:Nat->Heap->Prop} {P:Nat->Value->Prop} {fx:List (Nat×Addr)}
  (hok:cW csc x=true) (hcc:∀x i,cl.lookup x=some i->∃a,as[i]? = some a/\Res.lookup x=some a) (S:SR w ρ0 O G env h s as) (X:Nxt w G it N J P) (j0:J 0 h) (hN:N<=1000) (gi:G it=none) (off:jr [it] env.locals s.ob as)
  (C:Nat->Gr->Rho->St->List Value->Prop) (c0:∀G',bf G G'->C 0 G' ρ0 ⟨[],cl,s.ob,[]⟩ []) (f0:Fx fx as)
  (turn:∀i G1 G' ρ s Us (cenv:Env) h₂ n as V ac,i < N->P i V->C i G1 ρ s Us->bf G G1->bf G1 G'->(∀a∈[it,ac],G1 a=none)->(∃o,G' it=some o/\∀vs m,o.data≠.seq vs m)->(∀o,h.get? env.locals=some o->G' env.locals=some o)->At G' ac (.pl Us)->it≠ac->cenv.scope=bM csc env.scope->cenv.locals≠env.locals->SR w ρ O G' cenv h₂ s as->Fx fx as->∀(T E1 E2:Value->Shared->Prop),(∀U ρ' s' h' n' as' G2,bf G' G2->C (i + 1) (strip [it,ac] G2) ρ' s' (Us++[U])->SR w ρ' O G2 cenv h' s' as'->Fx fx as'->T U ⟨h',gs,dr,n',os⟩)->
   wpAny (model pr w) A (storeName cenv x V) (fun zw s₂=>wpAny (model pr w) A (eval elt cenv) T E1 s₂) E2 ⟨h₂,gs,dr,n,os⟩)
  (done:∀ρ s' h' n as' G' ac Us cL,C N G' ρ s' Us->bf G (strip [env.locals] G')->strip [env.locals] G' cL=none->(∃m,h'.Ns cL m)->
   (∀ls' cl',(∀x v,ls'.lookup x=some v->∃v0,s.ls.lookup x=some v0/\∀V,Dn ρ0 as v0 V->Dn ρ as' v V)->(∀x i,cl'.lookup x=some i->∃j,s.cl.lookup x=some j/\∀a,as[j]? = some a->as'[i]? = some a)->SR w ρ O (Gr.add (strip [env.locals] G') h' [cL]) env h' ⟨ls',cl',s'.ob,[]⟩ as')->
   Fx fx as'->At h'.get? ac (.pl Us)->jr [ac,cL] env.locals s'.ob as'->ac≠cL->strip [env.locals] G' ac=none->compPost (model pr w) A Er use Q (.ref ac) cL (.ok .next) ⟨h',gs,dr,n,os⟩) :
  Cr w A Er Q env csc Res elt x px iter pos use (.ref it) ⟨h,gs,dr,n,os⟩:=by
 apply bc;intro ng
 obtain ⟨c1,c2,c3,c4⟩:=eO hok
 apply ng;clear ng
 unfold Cr
 refine wpAny_newObj_type (s:=⟨h,gs,dr,n,os⟩) ?_ (Nat.zero_le _)
 have kH:h.StaysIn (h.push { cls:=.type "list",data:=.seq #[] }):=fun zw zw e=>Heap.get?_push_of_some _ e
 have lac:At (h.push { cls:=.type "list",data:=.seq #[] }).get? h.objs.size (.pl []):=⟨_,Heap.get?_push_size _ rfl,_,rfl⟩
 have hsz:(h.push { cls:=.type "list",data:=.seq #[] }).objs.size=h.objs.size + 1:=Heap.size_push ..
 show wpAny _ _ _ _ _ ⟨h.push { cls:=.type "list",data:=.seq #[] },gs,dr,n,os⟩
 generalize h.push { cls:=.type "list",data:=.seq #[] }=H2 at kH lac hsz
 refine wpAny_newFunctionEnv (s:=⟨H2,gs,dr,n,os⟩) c1 (by intro y hy; simp at hy) (fun h₁ hns hsb=>?_) c2
 dsimp only at hns hsb
 have kk:H2.StaysIn h₁:=fun b o e=>hsb.extBut b o (Nat.ne_of_lt (Heap.lt_size e)) (Heap.get?_push_of_some _ e)
 have S2:=S.stay kH
 have SC:SR w ρ0 O (iJ G H2 env.locals) (compEnvC csc Res H2.objs.size env) h₁ ⟨[],cl,s.ob,s.pc⟩ as :=
  S2.co.enterC kk rfl S.eg S.eb c2 hns (fun x v e=>by (exact ap e)) hcc
 have SC:=SC.pcs (pc:=[]) fun zw m=>(nomatch m)
 apply bc;intro ng
 obtain ⟨io,eio,-⟩:=X.ex j0
 obtain ⟨fn,⟨oL,es,ep,l2,l3⟩,l1⟩:=S.lc
 apply ng;clear ng
 have lL:=Heap.lt_size l2
 have lit:=Heap.lt_size eio
 have g0:bf G (iJ G H2 env.locals):=iJ.sub S.fL
 have ge:iJ G H2 env.locals env.locals=some oL:=by unfold iJ; refine aa (if_pos rfl) ?_; exact kH _ _ l2
 have gn:G h.objs.size=none:=by
  induction q:G h.objs.size with
  | none=>rfl
  | some y=>exact absurd (Heap.lt_size (S.kp _ _ q)) (Nat.lt_irrefl _)
 have git:iJ G H2 env.locals it=none:=by unfold iJ; refine aa (if_neg (off it (.head _)).1) ?_; exact gi
 have gac:iJ G H2 env.locals h.objs.size=none:=by unfold iJ; refine aa (if_neg (Nat.ne_of_gt lL)) ?_; exact gn
 have off0:jr [it,h.objs.size] H2.objs.size s.ob as:=jF ⟨by refine aa hsz ?_; exact Nat.ne_of_lt (Nat.lt_succ_of_lt lit),(off it (.head _)).2⟩
  ⟨by refine aa hsz ?_; exact Nat.ne_of_lt (Nat.lt_succ_self _),fun i o e ow e'=>absurd ((S.ob i o _ e e').1.lt ow) (Nat.lt_irrefl _)⟩
 have nia:it≠h.objs.size:=Nat.ne_of_lt lit
 generalize h.objs.size=ac at gac off0 nia lac
 have loop:codeAny (model pr w) A (.compLoop (.ListComp elt [⟨.Name x px,iter,[],0⟩] csc pos) 0 (.ref it) (.ref ac) (compEnvC csc Res H2.objs.size env)) (compPost (model pr w) A Er use Q (.ref ac) H2.objs.size) ⟨h₁,gs,dr,n,os⟩:=by
  generalize hRR:compPost (model pr w) A Er use Q (.ref ac) H2.objs.size=RR
  obtain ⟨I,hI⟩:∃I:Nat->Shared->Prop,∀k st,I k st↔∃i ρ s h n as Gi Us,k + i=N/\st=⟨h,gs,dr,n,os⟩/\C i Gi ρ s Us/\SR w ρ O Gi (compEnvC csc Res H2.objs.size env) h s as/\bf (iJ G H2 env.locals) Gi/\(∀a∈[it,ac],Gi a=none)/\jr [it,ac] H2.objs.size s.ob as/\Fx fx as/\J i h/\At h.get? ac (.pl Us)/\Us.length=i:=⟨_,fun zw zw=>Iff.rfl⟩
  refine codeAny_compLoop_list I (fun k st i0=>?_) N
   ((hI _ _).mpr ⟨0,ρ0,_,h₁,n,as,_,[],rfl,rfl,c0 _ g0,SC,fun zw zw e=>e,jF git gac,off0,f0,X.keep (X.keep j0 (kH it)) (kk it),lac.le (kk ac),rfl⟩)
  ·apply bc;intro ng
   obtain ⟨i,ρ,s',h',n',as',Gi,Us,hk,rfl,c,Si,le,fr,of,f,j,la,ul⟩:=(hI _ _).mp i0
   apply ng;clear ng i0
   have gk:bf G (Heap.get? h'):=fun a o e=>Si.kp _ _ (le _ _ (g0 _ _ e))
   by_cases hi:i < N
   ·refine X.item hi j gk fun h2 V n2 j2 hs hV=>?_
    have k2:∀b y,b ∉ [it,ac]->h'.get? b=some y->h2.get? b=some y:=fun b y m e=>(hs.2 b fun q=>m (q▸.head _)).trans e
    have S3:=Si.off fr of k2
    have S4:=S3.pin (h:=h2) of fr
    have la2:At h2.get? ac (.pl Us):=la.le fun o e=>(hs.2 ac fun q=>nia q.symm).trans e
    have addm:∀a∈[it,ac],(Gi.add h2 [it,ac]) a=h2.get? a:=fun a m=>by unfold Gr.add; exact aa (if_pos m) rfl
    apply bc;intro ng
    obtain ⟨io2,e2,d2⟩:=X.ex j2
    apply ng;clear ng
    refine wpAny_assign_Name (turn i Gi _ ρ s' Us _ h2 n2 as' V ac hi hV c (fun a o e=>le _ _ (g0 _ _ e)) (bf.add fr) fr ⟨io2,by rw [addm it (.head _)]; exact e2,d2⟩ (fun o e=>bf.add fr _ _ (le _ _ (by rw [l2] at e; cases e; exact ge))) (la2.le fun o e=>by rw [addm ac (.tail _ (.head _))]; exact e) nia rfl (by show H2.objs.size≠_; rw [hsz]; exact Nat.ne_of_gt (Nat.lt_succ_of_lt lL)) S4 f _ _ _ fun U ρ' s5 h5 n5 as5 G2 le2 c5 S5 f5=>?_)
    have up:∀a∈[it,ac],∀o,h2.get? a=some o->h5.get? a=some o:=fun a m o e=>S5.kp _ _ (le2 _ _ (by refine aa (addm a m) ?_; exact e))
    have l5:At h5.get? ac (.pl Us):=la2.le (up ac (.tail _ (.head _)))
    have l5p:h5.PlainList ac Us.toArray:=let ⟨o,e1,n1,e2⟩:=l5; ⟨n1,e2▸e1⟩
    refine wpAny_list_append_plain (s:=⟨h5,gs,dr,n5,os⟩) l5p (fun h6 l6 hs6=>?_) (by simp; refine aa sizeLine_eq ?_; (first | lia | omega))
    have l6':At h6.get? ac (.pl (Us++[U])):=by
     apply bc;intro ng
     obtain ⟨n2,e2⟩:=l6
     apply ng;clear ng
     exact ⟨_,e2,n2,by simp⟩
    have k6:∀b y,b ∉ [it,ac]->h5.get? b=some y->h6.get? b=some y:=fun b y m e=>(hs6.2 b fun q=>m (q▸.tail _ (.head _))).trans e
    apply bc;intro ng
    obtain ⟨S7,of7,le7,fr7⟩:=S5.unpin (l:=[it,ac]) SC.bs SC.og (jF git gac) (fun a o e=>le2 _ _ (bf.add fr a o (le a o e))) (fun a m=>let ⟨o,e⟩:=jF (p:=fun a=>∃o,h2.get? a=some o) ⟨io2,e2⟩ (let ⟨o,e,_⟩:=la2; ⟨o,e⟩) a m; ⟨o,le2 _ _ ((addm a m).trans e)⟩) k6
    apply ng;clear ng
    exact ⟨k - 1,by (first | lia | omega),(hI _ _).mpr ⟨i + 1,ρ',s5,h6,n5,as5,_,Us++[U],by (first | lia | omega),rfl,c5,S7,le7,fr7,of7,f5,
     X.keep (X.keep j2 (up it (.head _))) (fun o e=>(hs6.2 it nia).trans e),l6',by simp [ul]⟩⟩
   ·have hiN:i=N:=by (first | lia | omega)
    refine X.stop hR.hd (hiN▸j) gk fun h2 hs=>?_
    have k2:∀b y,b ∉ [it,ac]->h'.get? b=some y->h2.get? b=some y:=fun b y m e=>hs b y (fun q=>m (q▸.head _)) e
    have S3:=Si.off fr of k2
    apply bc;intro ng
    obtain ⟨f3,N3,-⟩:=S3.lc
    apply ng;clear ng
    have cL:Gi H2.objs.size=none:=S3.fL
    have gL:Gi env.locals=some oL:=le _ _ ge
    have gst:bf G (strip [env.locals] Gi):=bf.strip (fun a m=>by refine aa (List.mem_singleton.mp m) ?_; exact S.fL) fun a o e=>le _ _ (g0 _ _ e)
    have sn:∀a,Gi a=none->strip [env.locals] Gi a=none:=fun a e=>by unfold strip; split; rfl; exact e
    have ne:∀a,Gi a=none->a≠env.locals:=fun a e q=>by rw [q,gL] at e; cases e
    have aL:ac≠H2.objs.size:=(of ac (.tail _ (.head _))).1
    have offc:jr [H2.objs.size] env.locals s'.ob as':=fun a m=>by
     refine aa (List.mem_singleton.mp m) ?_
     exact ⟨ne _ cL,fun i o e ow e'=>((S3.ob i o _ e e').2 ow).1 rfl⟩
    refine aa (Eq.symm hRR) ?_
    refine done ρ s' h2 n' as' Gi ac Us H2.objs.size (hiN▸c) gst (sn _ cL) ⟨f3,N3⟩ (fun ls' cl' hl hc=>?_) f ?_ (jF ⟨ne ac (fr ac (.tail _ (.head _))),(of ac (.tail _ (.head _))).2⟩ (offc _ (.head _))) aL (sn _ (fr ac (.tail _ (.head _))))
    ·obtain ⟨hb,W,kb⟩:=S.bs
     refine SR.pin (s:=⟨ls',cl',s'.ob,[]⟩) ⟨⟨hb,W,fun a o e=>gst a o (kb a o e)⟩,fun a o e=>?_,fun a o e=>gst a o (S.og a o e),by unfold strip; exact aa (if_pos (.head _)) rfl,S.eg,S.eb,S.ek,⟨fn,⟨oL,es,ep,S3.kp _ _ gL,l3⟩,fun y v e=>?_⟩,fun y i e=>?_,S3.sz,fun i o a e e'=>?_,S3.nd,fun zw m=>nomatch m⟩ offc (fun a m=>by refine aa (List.mem_singleton.mp m) ?_; exact sn _ cL)
     ·unfold strip at e; split at e
      ·exact ap e
      ·exact S3.kp a o e
     ·obtain ⟨v0,z1,z2⟩:=hl y v e
      apply bc;intro ng
      obtain ⟨V,z3,z4⟩:=l1 y v0 z1
      apply ng;clear ng
      exact ⟨V,z3,z2 V z4⟩
     ·obtain ⟨j,z1,z2⟩:=hc y i e
      apply bc;intro ng
      obtain ⟨a,z3,z4⟩:=S.cc y j z1
      apply ng;clear ng
      exact ⟨a,z2 a z3,z4⟩
     ·obtain ⟨z1,z2⟩:=S3.ob i o a e e'
      exact ⟨z1,fun ow=>⟨ne a (z2 ow).2,sn a (z2 ow).2⟩⟩
    ·exact la.le fun o e=>hs ac o (fun q=>nia q.symm) e
 exact codeAny_compStart_list loop (X.self (X.keep (X.keep j0 (kH it)) (kk it)) loop)
theorem SR.drop1 {ρ:Rho} {G1:Gr} {h h':Heap} {s:St} {as:List Addr} {a:Addr} (S:SR w ρ O (G1.add h [a]) env h' s as) (g:G1 a=none) (ex:∃o,h.get? a=some o) (b0:∃hb,Wd w hb/\∀x o,hb.get? x=some o->G1 x=some o) (og:bf O.g G1) {h'':Heap} (k:∀b x,b ∉ [a]->h'.get? b=some x->h''.get? b=some x) :
  SR w ρ O G1 env h'' s as/\jr [a] env.locals s.ob as:=by
 have fr:∀x∈[a],G1 x=none:=fun x m=>by refine aa (List.mem_singleton.mp m) ?_; exact g
 apply bc;intro ng
 obtain ⟨S5,o5,_,_⟩:=S.unpin (G0:=G1) (l:=[a]) b0 og fr (bf.add fr) (fun x m=>by
  refine aa (List.mem_singleton.mp m) ?_
  obtain ⟨o,e⟩:=ex
  exact ⟨o,by unfold Gr.add; refine aa (if_pos (.head _)) ?_; exact e⟩) k
 apply ng;clear ng
 have eqG:strip [a] (Gr.add G1 h [a])=G1:=by
  funext b
  unfold strip Gr.add
  by_cases m:b∈[a]
  ·exact aa (if_pos m) (aa (fr b m) rfl)
  ·exact aa (if_neg m) (aa (if_neg m) rfl)
 rw [eqG] at S5
 exact ⟨S5,o5⟩
theorem zP {d:Nat} (hR:Room A d) {x:Str} {px:Pos} {elt iter:Expr} {csc:Scope} {pos:Pos} {cl:List (Str×Nat)} {Res:List (Str×Addr)} {s:St} {h:Heap} {n:Nat} {as:List Addr} {it:Addr} {N:Nat} {J:Nat->Heap->Prop} {P:Nat->Value->Prop} {fx:List (Nat×Addr)}
  (hok:cW csc x=true) (hcc:∀x i,cl.lookup x=some i->∃a,as[i]? = some a/\Res.lookup x=some a) (S:SR w ρ0 O G env h s as) (X:Nxt w G it N J P) (j0:J 0 h) (hN:N<=1000) (gi:G it=none) (off:jr [it] env.locals s.ob as)
  (C:Nat->Gr->Rho->St->List Value->Prop) (c0:∀G',bf G G'->C 0 G' ρ0 ⟨[],cl,s.ob,[]⟩ []) (f0:Fx fx as)
  (turn:∀i G1 G' ρ s Us (cenv:Env) h₂ n as V ac,i < N->P i V->C i G1 ρ s Us->bf G G1->bf G1 G'->(∀a∈[it,ac],G1 a=none)->(∃o,G' it=some o/\∀vs m,o.data≠.seq vs m)->(∀o,h.get? env.locals=some o->G' env.locals=some o)->At G' ac (.pl Us)->it≠ac->cenv.scope=bM csc env.scope->cenv.locals≠env.locals->SR w ρ O G' cenv h₂ s as->Fx fx as->∀(T E1 E2:Value->Shared->Prop),(∀U ρ' s' h' n' as' G2,bf G' G2->C (i + 1) (strip [it,ac] G2) ρ' s' (Us++[U])->SR w ρ' O G2 cenv h' s' as'->Fx fx as'->T U ⟨h',gs,dr,n',os⟩)->
   wpAny (model pr w) A (storeName cenv x V) (fun zw s₂=>wpAny (model pr w) A (eval elt cenv) T E1 s₂) E2 ⟨h₂,gs,dr,n,os⟩)
  (done:∀ρ s' h' n as' G' ac Us,C N G' ρ s' Us->bf G (strip [env.locals] G')->
   (∀ls' cl',(∀x v,ls'.lookup x=some v->∃v0,s.ls.lookup x=some v0/\∀V,Dn ρ0 as v0 V->Dn ρ as' v V)->(∀x i,cl'.lookup x=some i->∃j,s.cl.lookup x=some j/\∀a,as[j]? = some a->as'[i]? = some a)->SR w ρ O (strip [env.locals] G') env h' ⟨ls',cl',s'.ob,[]⟩ as')->
   Fx fx as'->At h'.get? ac (.pl Us)->jr [ac] env.locals s'.ob as'->strip [env.locals] G' ac=none->Q (.ref ac) ⟨h',gs,dr,n,os⟩) :
  Cr w A Er Q env csc Res elt x px iter pos none (.ref it) ⟨h,gs,dr,n,os⟩:=by
 refine r9 hR hok hcc S X j0 hN gi off C c0 f0 turn fun ρ s' h' n as' G' ac Us cL c gg gc ⟨m,N⟩ back fx la of acL ga=>⟨m,N,fun h3 hs3=>?_⟩
 apply bc;intro ng
 obtain ⟨hb,W,kb⟩:=S.bs
 obtain ⟨oc,ec⟩:∃o,h'.get? cL=some o:=let ⟨o,_,_,e,_⟩:=N; ⟨o,e⟩
 apply ng;clear ng
 have k3:∀b x,b ∉ [cL]->h'.get? b=some x->h3.get? b=some x:=fun b x m e=>(hs3.2 b fun q=>m (q▸.head _)).trans e
 exact done ρ s' h3 n as' G' ac Us c gg (fun ls' cl' hl hc=>((back ls' cl' hl hc).drop1 gc ⟨oc,ec⟩ ⟨hb,W,fun a o e=>gg a o (kb a o e)⟩ (fun a o e=>gg a o (S.og a o e)) k3).1) fx (la.le fun o e=>(hs3.2 ac acL).trans e) (fun a m=>of a (by refine aa (List.mem_singleton.mp m) ?_; exact .head _)) ga
end
def H2 (w:World) (ρ:Rho) (O:Opq) (hk:Hk) (r0:Nat):Prop:=HB w O/\2<=r0/\ay w ρ O hk r0
noncomputable def ya (P:Params) (hk:Hk) (n:Nat) (sc:Scope) (x:Str) (v:AV) (body:List Stmt) (s:St):Tr:=bZ sc x v s fun s=>qm (fJ P hk n) sc body s fun f s=>.leaf f { s with pc:=[] }
section
variable {w:World} {ρ ρ':Rho} {O:Opq} {d:Nat} {A:Around} {gs:Array GenState} {dr:Drawn} {os:OsState} {G:Gr} {env:Env} {hk:Hk} {n0 r0:Nat} {s s':St} {vc:VC} {m:List Nat} {sc:Scope} {h:Heap} {n:Nat} {as:List Addr}
theorem H2.run (H:H2 w ρ O hk r0) (n:Nat):Snd w ρ O (n + r0) (fJ w.params hk n):=nT H.1 H.2.1 H.2.2 n
theorem iM (H:H2 w ρ O hk r0) {bs:List Stmt} (hsc:env.scope=sc) (e:(cD w.params hk n0 sc bs s).vc m .nx s'=vc) {Q:Flow->Shared->Prop} {E:Value->Shared->Prop} (R:Room A (n0 + r0)) (S:SR w ρ O G env h s as) (y:vc.den ρ ρ')
  (q:∀h' as' n',SR w ρ' O G env h' s' (m.map fun j=>as'.getD j 0)->aM as as'->Q .next ⟨h',gs,dr,n',os⟩):wpAny (model pr w) A (execs bs env) Q E ⟨h,gs,dr,n,os⟩:=by
 apply bc;intro ng
 subst hsc
 apply ng;clear ng
 rw [<- e] at y
 have y:=cV y
 unfold cD at y
 refine cj (H.run n0) R y S fun fl F h3 as3 n3 s3 y S3 p3 df=>?_
 apply bc;intro ng
 obtain ⟨l0,l,y1,y2,y3,y4⟩:=y
 apply ng;clear ng
 have S3:=S3.pcs (pc:=[]) fun zw m=>(nomatch m)
 induction fl with
 | nx=>have df:F = .next:=df; subst df; exact q _ _ _ (S3.re m y3 y4) p3
 | ct=>exact ap y1
 | rt v=>exact ap y1
 | bk=>exact ap y1
theorem uO (H:H2 w ρ O hk r0) {bs:List Stmt} {v:AV} (hsc:env.scope=sc) (e:(cD w.params hk n0 sc bs s).vc m (.rt v) s'=vc) {Q:Flow->Shared->Prop} {E:Value->Shared->Prop} (R:Room A (n0 + r0)) (S:SR w ρ O G env h s as) (y:vc.den ρ ρ')
  (q:∀V h' as' n',SR w ρ' O G env h' s' (m.map fun j=>as'.getD j 0)->aM as as'->Dn ρ' (m.map fun j=>as'.getD j 0) v V->Q (.ret V) ⟨h',gs,dr,n',os⟩):wpAny (model pr w) A (execs bs env) Q E ⟨h,gs,dr,n,os⟩:=by
 subst hsc
 rw [<- e] at y
 have y:=cV y
 unfold cD at y
 refine cj (H.run n0) R y S fun fl F h3 as3 n3 s3 y S3 p3 df=>?_
 obtain ⟨l0,l,y1,y2,y3,y4⟩:=y
 have S3:=S3.pcs (pc:=[]) fun zw m=>(nomatch m)
 induction fl with
 | nx=>exact ap y1
 | ct=>exact ap y1
 | bk=>exact ap y1
 | rt u =>
  obtain ⟨V,rfl,dv⟩:=df
  exact q V _ _ _ (S3.re m y3 y4) p3 (bS (dw rfl) y1 y2 dv)
theorem qH (H:H2 w ρ O hk r0) {e:Expr} {v:AV} (hsc:env.scope=sc) (ev:(bB w.params hk n0 sc e s).vc m (.rt v) s'=vc) {Q:Value->Shared->Prop} {E:Value->Shared->Prop} (R:Room A (n0 + r0)) (S:SR w ρ O G env h s as) (y:vc.den ρ ρ')
  (q:∀V h' as' n',SR w ρ' O G env h' s' (m.map fun j=>as'.getD j 0)->aM as as'->Dn ρ' (m.map fun j=>as'.getD j 0) v V->Q V ⟨h',gs,dr,n',os⟩):wpAny (model pr w) A (eval e env) Q E ⟨h,gs,dr,n,os⟩:=by
 subst hsc
 rw [<- ev] at y
 have y:=cV y
 unfold bB at y
 refine (H.run n0).E R y S fun u V s3 h3 as3 n3 y S3 p3 du=>?_
 obtain ⟨l0,l,y1,y2,y3,y4⟩:=y
 exact q V h3 _ n3 ((S3.pcs (pc:=[]) fun zw m=>nomatch m).re m y3 y4) p3 (bS (dw rfl) y1 y2 du)
theorem rR (H:H2 w ρ O hk r0) {e:Expr} {whole:Sem Value} {t:Tr} (hsc:env.scope=sc) (ev:kO w.params hk n0 sc e s=t) {Q:Bool->Shared->Prop} {E:Value->Shared->Prop} (R:Room A (n0 + r0)) (S:SR w ρ O G env h s as) (hw:dY e=true->whole=eval e env)
  (y:t.ok ρ fun f s'=>∀c h' as' n',f = .rt (.bool c)->SR w ρ O G env h' s' as'->aM as as'->Q c ⟨h',gs,dr,n',os⟩):wpAny (model pr w) A (isTrue e env whole) Q E ⟨h,gs,dr,n,os⟩:=by
 apply bc;intro ng
 subst hsc
 apply ng;clear ng
 rw [<- ev] at y
 unfold kO at y
 exact (H.run n0).T R y S hw fun c s3 h3 as3 n3 y S3 p3=>y c h3 as3 n3 rfl (S3.pcs (pc:=[]) fun zw m=>nomatch m) p3
theorem rS (H:H2 w ρ O hk r0) {x:Str} {v:AV} {V:Value} {body:List Stmt} (hsc:env.scope=sc) (e:(ya w.params hk n0 sc x v body s).vc m .ct s'=vc) {Q:Flow->Shared->Prop} {E1 E2:Value->Shared->Prop} (R:Room A (n0 + r0)) (S:SR w ρ O G env h s as) (dv:Dn ρ as v V) (y:vc.den ρ ρ')
  (q:∀F h' as' n',(F = .next\/F = .cont)->SR w ρ' O G env h' s' (m.map fun j=>as'.getD j 0)->aM as as'->Q F ⟨h',gs,dr,n',os⟩) :
  wpAny (model pr w) A (storeName env x V) (fun zw s₂=>wpAny (model pr w) A (execs body env) Q E1 s₂) E2 ⟨h,gs,dr,n,os⟩:=by
 apply bc;intro ng
 subst hsc
 apply ng;clear ng
 rw [<- e] at y
 have y:=cV y
 unfold ya at y
 refine aW y S dv fun s2 h2 n2 y S2=>?_
 refine cj (H.run n0) R y S2 fun fl F s3 h3 as3 n3 y S3 p3 df=>?_
 apply bc;intro ng
 obtain ⟨l0,l,y1,y2,y3,y4⟩:=y
 apply ng;clear ng
 refine q F h3 as3 n3 ?_ ((S3.pcs (pc:=[]) fun zw m=>nomatch m).re m y3 y4) p3
 induction fl with
 | nx=>exact .inl df
 | ct=>exact .inr df
 | rt v=>exact ap y1
 | bk=>exact ap y1
theorem H2.no (hb:HB w O):H2 w ρ O aA 2:=⟨hb,Nat.le_refl _,ay.no⟩
theorem bf.hb {w:World} {h:Heap} (W:Wd w h) {P:Nat->Addr->Prop} {n1 n2}:HB w ⟨h.get?,P,n1,n2⟩:=⟨h,W,fun zw zw e=>e⟩
end
noncomputable def AA (v:Value):St:=⟨[(S' "script",.glb v),(S' "whole_one",.int (.v 0))],[],[.dead,.lit 0 0],[]⟩
noncomputable def FP (v:Value):St:=⟨[(S' "script",.glb v),(S' "whole_one",.int (.v 0))],[],[],[]⟩
noncomputable def dR (P:Params):Stmt:=(al P 850).getD 1 (.Pass default)
noncomputable def Iy (P:Params) (v:Value):VC:=(cD P aA 10 (bp P 850) ((al P 850).take 1) ⟨[(S' "script",.glb v)],[],[],[]⟩).vc [] .nx (FP v)
noncomputable def IB (P:Params) (v:Value) (i:Nat):VC:=(ya P aA 10 (bp P 850) (bj (cy (dR P))) (.int (.v 1)) (bg (dR P)) ⟨(AA v).ls,[],[.dead,.lit 0 i],[]⟩).vc [0,1] .ct ⟨(AA v).ls,[],[.dead,.lit 0 i],[]⟩
noncomputable def H9 (P:Params) (v:Value):VC:=(cD P aA 10 (bp P 850) ((al P 850).drop 2) ⟨(AA v).ls,[],[.dead,.dead],[]⟩).vc [2] (.rt (.loc 0)) ⟨[],[],[.lst [.int (.v 0),.int (.c 0)]],[]⟩
noncomputable def jK (P:Params):Stmt:=(al P 878).getD 1 (.Pass default)
noncomputable def kF (P:Params):Stmt:=(tQ (jK P)).getD 0 (.Pass default)
noncomputable def mU:List (Str×AV):=[(S' "heap",.loc 0),(S' "left",.loc 1),(S' "found",.loc 2)]
noncomputable def j7 (f:AO):St:=⟨mU,[],[.lst [.int (.v 0),.int (.v 1)],.rf 3,f],[]⟩
noncomputable def Lh (P:Params):VC:=(cD P fX 12 (bp P 878) ((al P 878).take 1) ⟨[(S' "items",.loc 1),(S' "heap",.loc 0)],[],[.lst [.int (.v 0),.int (.v 1)],.fz (.rf 1)],[]⟩).vc [0,2,3] .nx (j7 (.pl []))
noncomputable def Kd (P:Params):VC:=(bB P fX 12 (bp P 878) (bq (bq (ch (kF P)))) (j7 (.rf 4))).vc [0,1,2] (.rt (.int (.v 4))) ⟨mU,[],[.lst [.int (.v 2),.int (.v 3)],.rf 3,.rf 4],[]⟩
noncomputable def HC (P:Params):VC:=(cD P fX 12 (bp P 878) ((al P 878).drop 2) (j7 (.rf 4))).vc [0,2] (.rt (.loc 1)) ⟨[],[],[.lst [.int (.v 0),.int (.v 1)],.rf 4],[]⟩
noncomputable def dU (P:Params):Stmt:=(al P 892).getD 2 (.Pass default)
noncomputable def BD:List (Str×AV):=[(S' "items",.loc 4),(S' "begin",.int (.v 2)),(S' "end",.int (.v 3))]
noncomputable def lS:List AO:=[.dead,.dead,.dead,.lst [.int (.v 0),.int (.v 1)],.fz (.rf 1),.dead,.dead,.dead,.dead]
noncomputable def bX:St:=⟨BD,[],lS,[]⟩
noncomputable def zH:List Nat:=[0,1,2,3,4,5,6,7,8]
noncomputable def GX (P:Params):VC:=(cD P fX 12 (bp P 892) ((al P 892).take 2) ⟨[(S' "items",.loc 4),(S' "heap",.loc 3)],[],lS,[]⟩).vc zH .nx bX
noncomputable def Js (P:Params):VC:=(cD P fX 12 (bp P 892) (tQ (dU P)) bX).vc zH .nx bX
noncomputable def LJ (P:Params):VC:=(cD P fX 12 (bp P 892) ((al P 892).drop 3) bX).vc [3,9] (.rt (.loc 1)) ⟨[],[],[.lst [.int (.v 0),.int (.v 1)],.tup [.int (.v 2),.int (.v 3)]],[]⟩
noncomputable def nD (P:Params):Expr:=LC (i6 1 (ch (dU P)))
noncomputable def Nk.run:Nk->Bool | .skp=>false | _=>true
noncomputable def Mv (P:Params) (k:Nk):Tr:=pd P (.loc (9 + k.last)) (S' "kind") ⟨BD,[],lS++(k.T 9 11).map .fz,[]⟩ fun v zw=>gG .NotEq v (.int (.c 6)) bX fun c s=>.leaf (.rt (.bool c)) s
theorem we (P:Params) (v:Value):Iy P v=VC.ok [Ob1.val v v,Ob1.ie (IE.c 0) (IE.v 0)]:=by kernel_rfl
theorem vP (P:Params) (v:Value) (i:Nat):IB P v i=VC.br (CE.lt (IE.v 1) (IE.c 0)) (VC.ok [Ob1.nat i i,Ob1.val v v,Ob1.ie (IE.add (IE.add (IE.mul (IE.v 0) (IE.c 1000003)) (IE.mul (IE.mod (IE.abs (IE.v 1)) (IE.c 1000000000000000000000000000000)) (IE.c 2))) (IE.c 1)) (IE.v 0)]) (VC.ok [Ob1.nat i i,Ob1.val v v,Ob1.ie (IE.add (IE.add (IE.mul (IE.v 0) (IE.c 1000003)) (IE.mul (IE.mod (IE.abs (IE.v 1)) (IE.c 1000000000000000000000000000000)) (IE.c 2))) (IE.c 0)) (IE.v 0)]):=by kernel_rfl
theorem xh (P:Params) (v:Value):H9 P v=VC.ok [Ob1.ie (IE.v 0) (IE.v 0),Ob1.ie (IE.c 0) (IE.c 0)]:=by kernel_rfl
theorem xj (P:Params):Lh P=VC.req (CE.ilen 1 0) (VC.ok [Ob1.ie (IE.v 0) (IE.v 0),Ob1.ie (IE.v 1) (IE.v 1),Ob1.rf 1 3]):=by kernel_rfl
theorem xJ (P:Params):Kd P=VC.req (CE.ln 3 (IE.fn 900 (IE.c 3) (IE.c 0) (IE.c 0))) (VC.req (CE.lt (IE.c 0) (IE.fn 900 (IE.c 3) (IE.c 0) (IE.c 0))) (VC.req (CE.lt (IE.fn 900 (IE.c 3) (IE.c 0) (IE.c 0)) (IE.c 1000000)) (VC.req (CE.le (IE.c 0) (IE.v 1)) (VC.req (CE.lt (IE.v 1) (IE.c 1000000)) (VC.ok [Ob1.ie (IE.fn 30 (IE.v 0) (IE.v 1) (IE.fn 900 (IE.c 3) (IE.c 0) (IE.c 0))) (IE.v 4),Ob1.ie (IE.fn 31 (IE.v 0) (IE.v 1) (IE.fn 900 (IE.c 3) (IE.c 0) (IE.c 0))) (IE.v 2),Ob1.ie (IE.add (IE.v 1) (IE.c 1)) (IE.v 3),Ob1.rf 3 3,Ob1.rf 4 4]))))):=by kernel_rfl
theorem yb (P:Params):HC P=VC.ok [Ob1.ie (IE.v 0) (IE.v 0),Ob1.ie (IE.v 1) (IE.v 1),Ob1.rf 4 4]:=by kernel_rfl
theorem vO (P:Params):GX P=VC.req (CE.ln 1 (IE.fn 900 (IE.c 1) (IE.c 0) (IE.c 0))) (VC.req (CE.lt (IE.c 0) (IE.fn 900 (IE.c 1) (IE.c 0) (IE.c 0))) (VC.req (CE.lt (IE.fn 900 (IE.c 1) (IE.c 0) (IE.c 0)) (IE.c 1000000)) (VC.req (CE.le (IE.c 0) (IE.v 1)) (VC.req (CE.lt (IE.v 1) (IE.c 1000000)) (VC.ok [Ob1.ie (IE.fn 31 (IE.v 0) (IE.v 1) (IE.fn 900 (IE.c 1) (IE.c 0) (IE.c 0))) (IE.v 0),Ob1.ie (IE.add (IE.v 1) (IE.c 1)) (IE.v 1),Ob1.rf 1 1,Ob1.ie (IE.fn 30 (IE.v 0) (IE.v 1) (IE.fn 900 (IE.c 1) (IE.c 0) (IE.c 0))) (IE.v 2),Ob1.ie (IE.fn 30 (IE.v 0) (IE.v 1) (IE.fn 900 (IE.c 1) (IE.c 0) (IE.c 0))) (IE.v 3)]))))):=by kernel_rfl
theorem xz (P:Params):Js P=VC.ok [Ob1.ie (IE.v 0) (IE.v 0),Ob1.ie (IE.v 1) (IE.v 1),Ob1.rf 1 1,Ob1.ie (IE.v 2) (IE.v 2),Ob1.ie (IE.add (IE.v 3) (IE.c 1)) (IE.v 3)]:=by kernel_rfl
theorem xo (P:Params):LJ P=VC.ok [Ob1.ie (IE.v 0) (IE.v 0),Ob1.ie (IE.v 1) (IE.v 1),Ob1.ie (IE.v 2) (IE.v 2),Ob1.ie (IE.v 3) (IE.v 3)]:=by kernel_rfl
noncomputable def dS (x c:Int):Int:=x * 1000003 + (if c < 0 then -c else c) % 10 ^ 30 * 2 + (if c < 0 then 1 else 0)
noncomputable def fA (ns:List Int):Int:=(ns.take 24).foldl dS 0
noncomputable def fS:Nat->Int->Int->List Int->List Int->List Int×Int×Int
 | 0,x,c,_,F=>(F,x,c)
 | n + 1,x,c,L,F=>fS n (cb x c L.length) (c + 1) (L.eraseIdx (bu x c L.length).toNat) (F++[L.getD (bu x c L.length).toNat 0])
theorem iU:∀{L:List Int} {i:Nat},i < L.length->(L.getD i 0::L.eraseIdx i).Perm L
 | a::r,0,_=>.refl _
 | a::r,i + 1,h=>((List.Perm.swap a _ _).trans (.cons a (iU (Nat.lt_of_succ_lt_succ h))))
theorem mo:∀{n:Nat} {x c:Int} {L F:List Int},L.length=n->(fS n x c L F).1.Perm (F++L)/\(fS n x c L F).2.2=c + n
 | 0,x,c,L,F,h=>by
  rw [List.eq_nil_of_length_eq_zero h,List.append_nil]
  exact ⟨.refl _,(Int.add_zero c).symm⟩
 | n + 1,x,c,L,F,h=>by
  have b:=bC (a:=x) (c:=c) (m:=L.length) (by (first | lia | omega))
  have hi:(bu x c L.length).toNat < L.length:=by (first | lia | omega)
  obtain ⟨p,q⟩:=mo (n:=n) (x:=cb x c L.length) (c:=c + 1) (L:=L.eraseIdx (bu x c L.length).toNat) (F:=F++[L.getD (bu x c L.length).toNat 0]) (by refine aa (List.length_eraseIdx_of_lt hi) ?_; (first | lia | omega))
  refine ⟨p.trans ?_,by show (fS n _ _ _ _).2.2=_; refine aa q ?_; (first | lia | omega)⟩
  rw [List.append_assoc]
  exact List.Perm.append_left F (iU hi)
noncomputable def fN (kd:List Bool):Nat->Nat->Nat
 | 0,e=>e
 | n + 1,e=>if kd.getD e false=true then fN kd n (e + 1) else e
theorem oA {kd:List Bool}:∀{n e:Nat},e<=kd.length->e<=fN kd n e/\fN kd n e<=kd.length/\fN kd n e<=e + n/\∀i,e<=i->i < fN kd n e->kd.getD i false=true
 | 0,e,h=>⟨Nat.le_refl _,h,Nat.le_refl _,fun i a b=>by have b:i < e:=b; (first | lia | omega)⟩
 | n + 1,e,h=>by
  unfold fN
  by_cases c:kd.getD e false=true
  ·refine aa (if_pos c) ?_
   have l:e < kd.length:=by
    rcases Nat.lt_or_ge e kd.length with l | l
    ·exact l
    ·rw [List.getD_eq_getElem?_getD,List.getElem?_eq_none l] at c; exact bH c
   apply bc;intro ng
   obtain ⟨a,b,d,f⟩:=oA (n:=n) (e:=e + 1) l
   apply ng;clear ng
   refine ⟨by (first | lia | omega),b,by (first | lia | omega),fun i x y=>?_⟩
   rcases Nat.eq_or_lt_of_le x with rfl | x
   ·exact c
   ·exact f i x y
  ·refine aa (if_neg c) ?_
   exact ⟨Nat.le_refl _,h,by (first | lia | omega),fun i x y=>by (first | lia | omega)⟩
noncomputable def OW (h:Heap):Opq:=⟨h.get?,fun zw zw=>False,fun zw h=>h.elim,fun zw h=>h.elim⟩
section
variable {w:World} {A:Around} {gs:Array GenState} {dr:Drawn} {os:OsState} {h:Heap} {n:Nat}
theorem vU (P:Params):al P 850=(al P 850).take 1++(.For (.Name (bj (cy (dR P))) (aS (cy (dR P)))) (.Subscript (ca (aR (dR P))) (.Slice none (some (Mb (jM (aR (dR P))))) none (Nc (jM (aR (dR P))))) (d6 (aR (dR P)))) (bg (dR P)) [] (dR P).pos::(al P 850).drop 2):=by kernel_rfl
theorem CT (P:Params):dL P 850=some (aZ P 850):=by kernel_rfl
theorem u6 (P:Params) (v:Value):aQ (aZ P 850) [.glb v]=some [(S' "script",.glb v)]:=by kernel_rfl
theorem Dx (P:Params) (v:Value):(⟨[(S' "script",AV.glb v)].reverse.filter (fun x=>decide ((aZ P 850).scope.names.lookup x.1=some .local)),(ae (aZ P 850).scope.names).zip ((List.range (ae (aZ P 850).scope.names).length).map (([]:List AO).length + ·)),[]++(ae (aZ P 850).scope.names).map (fun n=>.cell ([(S' "script",AV.glb v)].reverse.lookup n)),[]⟩:St)=⟨[(S' "script",.glb v)],[],[],[]⟩:=by kernel_rfl
theorem AJ (P:Params) (v:Value):(bB P aA 10 (bp P 850) (ca (aR (dR P))) (FP v)).vc [] (.rt (.glb v)) (FP v) = .ok [.val v v,.val v v,.ie (.v 0) (.v 0)]:=by kernel_rfl
theorem Cp (P:Params) (v:Value):(bB P aA 10 (bp P 850) (Mb (jM (aR (dR P)))) (FP v)).vc [] (.rt (.int (.c 24))) (FP v) = .ok [.ie (.c 24) (.c 24),.val v v,.ie (.v 0) (.v 0)]:=by kernel_rfl
theorem Dk (v:Value) (i:Nat):aN [0,1] ⟨(AA v).ls,[],[.dead,.lit 0 i],[]⟩ ⟨(AA v).ls,[],[.dead,.lit 0 i],[]⟩=some [.nat i i,.val v v,.ie (.v 0) (.v 0)]:=by kernel_rfl
noncomputable def bv (l:List Int):Rho:=⟨fun i=>l.getD i 0,GH,fun zw=>[]⟩
theorem pS {ns:List Int} {i:Nat} {c a:Int} (h:ns[i]? = some c):(ns.take (i + 1)).foldl dS a=dS ((ns.take i).foldl dS a) c:=by
 refine aa List.take_add_one (aa h ?_); simp
theorem tK (W:Wd w h) {l:Addr} {Vs:List Value} {ns:List Int} (L:At h.get? l (.lst Vs)) (I:IntsAre Vs ns) (hz:Vs.length<=1000) (R:Room A 14) {Q:Value->Shared->Prop} {E:Value->Shared->Prop}
  (q:∀h' n' z Us,h.StaysIn h'->h.get? z=none->At h'.get? z (.lst Us)->IntsAre Us [fA ns,0]->Q (.ref z) ⟨h',gs,dr,n',os⟩):wpAny (model pr w) A (call (.ref 850) [.ref l]) Q E ⟨h,gs,dr,n,os⟩:=by
 have HH:∀{l:List Int},H2 w (bv l) (OW h) aA 2:=H2.no (bf.hb W)
 have C0:Co w (bv []) (OW h) h.get? h [] [] []:=Co.all W (fun zw zw e=>e) .nil
 refine go (R.le (m:=13 + 1) (by decide)) (CT w.params) (u6 w.params (.ref l)) C0 (.cons rfl .nil) fun A' env h1 n1 as1 R1 esc p1 S1 E'=>?_
 refine dh fun Q' E' kq zw=>?_
 replace esc:env.scope=bp w.params 850:=esc
 replace R1:Room A' (10 + 2):=R1.le (by decide)
 rw [Dx w.params (.ref l),p1.eq S1.sz] at S1
 refine aa (show (aZ w.params 850).body=_ from vU w.params) ?_
 refine aH (iM (ρ':=bv [0]) HH esc (we w.params _) R1 S1 ⟨rfl,rfl⟩ fun h2 as2 n2 S2 p2=>?_)
 refine wpAny_execs_cons (wpAny_For (Subscript_ (qH (ρ':=bv [0]) HH esc (AJ w.params _) R1 S2 ⟨rfl,rfl,rfl⟩ fun V h3 as3 n3 S3 p3 dv=>?_)) (fun x=>rfl))
 have dv:V=_:=dv
 subst dv
 refine wpAny_Slice ?_
 rw [evalPart_none,evalPart_some]
 refine wpAny_pure (qH (ρ':=bv [0]) HH esc (Cp w.params _) R1 S3 ⟨rfl,rfl,rfl⟩ fun U h4 as4 n4 S4 p4 du=>?_)
 have du:∃t,U = .int 24 t:=du
 apply bc;intro ng
 obtain ⟨t24,rfl⟩:=du
 apply ng;clear ng
 refine wpAny_pure ?_
 have l4:h4.IsList l Vs.toArray:=L.le fun o e=>S4.kp _ _ e
 have hp:(h4.push { cls:=.type "slice",data:=.fields #[.none,.int 24 t24,.none] }).IsList l Vs.toArray:=l4.push _
 have S5:=S4.stay (h':=h4.push { cls:=.type "slice",data:=.fields #[.none,.int 24 t24,.none] }) fun zw zw e=>Heap.get?_push_of_some _ e
 refine tail_any (ops:=[.ref h4.objs.size,.ref l]) (T:="list") (s:=⟨h4.push _,gs,dr,n4,os⟩) (Heap.IsList.typeIs (s:=⟨h4.push _,gs,dr,n4,os⟩) hp) list_getitem_lookup ?_ rfl
 refine wpAny_getItem_list_slice (s:=⟨h4.push _,gs,dr,n4,os⟩) hp (Heap.IsSliceOf.new ..) .none (.int _ _) .none (by simp) ?_ (by refine aa List.size_toArray (aa sizeLine_eq ?_); (first | decide | lia | omega))
 refine aa (lC (lo:=none) (hi:=some 24) trivial (show (0:Int)<=24 by (first | decide | lia | omega))) ?_
 have e24:slV Vs none (some 24)=Vs.take 24:=by unfold slV; simp
 refine aa e24 ?_
 generalize hH:h4.push { cls:=.type "slice",data:=.fields #[.none,.int 24 t24,.none] }=H5 at S5
 show wpAny _ _ _ _ _ ⟨H5.push _,gs,dr,n4,os⟩
 have S6:=S5.stay (h':=H5.push { cls:=.type "list",data:=.seq (Vs.take 24).toArray }) fun zw zw e=>Heap.get?_push_of_some _ e
 have g6:h.get? H5.objs.size=none:=by
  induction q:h.get? H5.objs.size with
  | none=>rfl
  | some x=>exact absurd (Heap.lt_size (S5.kp _ _ q)) (Nat.lt_irrefl _)
 apply bc;intro ng
 obtain ⟨fL,NL,_⟩:=S5.lc
 apply ng;clear ng
 have off6:jr [H5.objs.size] env.locals [] []:=fun a m=>by
  refine aa (List.mem_singleton.mp m) ?_
  exact ⟨Nat.ne_of_gt NL.lt,fun i o e=>by simp at e⟩
 have fr6:∀a∈[H5.objs.size],h.get? a=none:=fun a m=>by refine aa (List.mem_singleton.mp m) ?_; exact g6
 have up:=bf.add (h:=H5.push { cls:=.type "list",data:=.seq (Vs.take 24).toArray }) fr6
 have S7:=S6.pin off6 fr6
 have hl:At (Gr.add h.get? (H5.push { cls:=.type "list",data:=.seq (Vs.take 24).toArray }) [H5.objs.size]) H5.objs.size (.lst (Vs.take 24)):=⟨_,by unfold Gr.add; refine aa (if_pos (.head _)) ?_; exact Heap.get?_push_size _ rfl,rfl,_,rfl⟩
 have hl2:(H5.push { cls:=.type "list",data:=.seq (Vs.take 24).toArray }).IsList H5.objs.size (Vs.take 24).toArray:=⟨_,Heap.get?_push_size _ rfl,rfl,_,rfl⟩
 generalize Gr.add h.get? (H5.push { cls:=.type "list",data:=.seq (Vs.take 24).toArray }) [H5.objs.size]=G7 at S7 hl up
 generalize H5.push { cls:=.type "list",data:=.seq (Vs.take 24).toArray }=H6 at S7 hl2
 generalize H5.objs.size=l2 at hl hl2
 have S8:=S7.tie (ao:=.dead) l2 rfl trivial
 refine wpAny_pyIter_list (s:=⟨H6,gs,dr,n4,os⟩) hl2 ?_
 have S9:=S8.push { cls:=.type "list_iterator",data:=.fields #[.ref l2,rawInt 0] } (ao:=.lit 0 0) ⟨l2,rfl,_,Heap.get?_push_size _ rfl,rfl,rfl⟩
 have I24:IntsAre (Vs.take 24) (ns.take 24):=I.take 24
 have HH7:∀{l:List Int},H2 w (bv l) (OW h) aA 2:=HH
 refine wy R1 (as:=[l2,H6.objs.size]) (m:=1) (j:=0) hl rfl rfl (fun i=>bv [((ns.take 24).take i).foldl dS 0]) (fun i=>⟨(AA (.ref l)).ls,[],[.dead,.lit 0 i],[]⟩) (fun zw=>rfl) (fun i h6 n6 V hV S Q2 E1 E2 q2=>?_) (fun h6 n6 S=>?_) S9
 ·apply bc;intro ng
  obtain ⟨c,t,eV,hc⟩:=I24.at i V hV
  rw [eV] at ng
  have Sr:=S.re (s':=⟨(AA (.ref l)).ls,[],[.dead,.lit 0 (i + 1)],[]⟩) (ρ':=bv [((ns.take 24).take i).foldl dS 0,c]) [0,1] (Dk _ _) ⟨rfl,rfl,rfl⟩
  refine ng (rS (ρ':=bv [((ns.take 24).take (i + 1)).foldl dS 0]) (v:=.int (.v 1)) HH esc (vP w.params _ _) R1 Sr ⟨t,rfl⟩ ?_ fun F h7 as7 n7 hF S7 p7=>?_)
  ·refine aa (pS hc) ?_
   refine ⟨fun hlt=>⟨rfl,rfl,?_⟩,fun hlt=>⟨rfl,rfl,?_⟩⟩
   ·have hlt:c < 0:=hlt
    show _=dS _ _
    unfold dS; refine aa (if_pos hlt) (aa (if_pos hlt) ?_)
    show _ * _ + (if c < 0 then -c else c) % _ * _ + _=_
    refine aa (if_pos hlt) ?_; rfl
   ·have hlt:¬c < 0:=hlt
    show _=dS _ _
    unfold dS; refine aa (if_neg hlt) (aa (if_neg hlt) ?_)
    show _ * _ + (if c < 0 then -c else c) % _ * _ + _=_
    refine aa (if_neg hlt) ?_; rfl
  ·obtain ⟨t,rfl⟩:=p7
   exact q2 _ _ _ hF S7
 ·have e:((ns.take 24).take (Vs.take 24).length).foldl dS 0=fA ns:=by
   refine aa I24.length (aa List.take_length ?_); rfl
  rw [e] at S
  refine uO (ρ':=bv [fA ns]) HH esc (xh w.params (.ref l)) R1 S ⟨rfl,rfl⟩ fun V h7 as7 n7 S7 p7 dv=>?_
  apply bc;intro ng
  obtain ⟨z,ez,eV⟩:=dv
  obtain ⟨⟨Us,a1,a2⟩,ow⟩:=S7.ob 0 _ z rfl ez
  rw [eV] at ng
  refine ng (kq _ _ (q h7 n7 z Us (fun b o e=>S7.kp _ _ (up b o e)) ?_ a2 (dQ (es:=[.v 0,.c 0]) a1)))
  induction qz:h.get? z with
  | none=>rfl
  | some o=>exact ap ((ow rfl).2.symm.trans (up z o qz))
end
section
variable {w:World} {ρ ρ':Rho} {O:Opq} {d:Nat} {A:Around} {gs:Array GenState} {dr:Drawn} {os:OsState} {G:Gr} {env:Env} {hk:Hk} {n0 r0:Nat} {s s':St} {vc:VC} {m:List Nat} {sc:Scope} {h:Heap} {n:Nat} {as as2:List Addr}
theorem All2.rel {α α' β:Type} {R:α->β->Prop} {R':α'->β->Prop} {l:List α} {l':List α'} {m:List β} (x:All2 R l m) (f:All2 (fun a a'=>∀b,R a b->R' a' b) l l'):All2 R' l' m:=by
 induction f generalizing m with
 | nil=>refine aa x.n ?_; exact .nil
 | cons k _ ih =>
  apply bc;intro ng
  obtain ⟨b,r,e,h,t⟩:=x.c
  exact ng (e▸.cons (k b h) (ih t))
theorem qN (H:H2 w ρ O hk r0) {e:Expr} {v:AV} (hsc:env.scope=sc) (ev:(bB w.params hk n0 sc e s).vc m (.rt v) s'=vc) {Q:Value->Shared->Prop} {E:Value->Shared->Prop} (R:Room A (n0 + r0)) (S:SR w ρ O G env h s as) (hm:m.all (fun j=>Nat.ble (j + 1) as.length)=true) (ha:(m.map fun j=>as.getD j 0)=as2) (y:vc.den ρ ρ')
  (q:∀V h' n',SR w ρ' O G env h' s' as2->Dn ρ' as2 v V->Q V ⟨h',gs,dr,n',os⟩):wpAny (model pr w) A (eval e env) Q E ⟨h,gs,dr,n,os⟩ :=
 qH H hsc ev R S y fun V h' as' n' S' p dv=>q V h' n' (ha▸dq p hm▸S') (ha▸dq p hm▸dv)
theorem z8 (H:H2 w ρ O hk r0) {bs:List Stmt} (hsc:env.scope=sc) (e:(cD w.params hk n0 sc bs s).vc m .nx s'=vc) {Q:Flow->Shared->Prop} {E:Value->Shared->Prop} (R:Room A (n0 + r0)) (S:SR w ρ O G env h s as) (hm:m.all (fun j=>Nat.ble (j + 1) as.length)=true) (ha:(m.map fun j=>as.getD j 0)=as2) (y:vc.den ρ ρ')
  (q:∀h' n',SR w ρ' O G env h' s' as2->Q .next ⟨h',gs,dr,n',os⟩):wpAny (model pr w) A (execs bs env) Q E ⟨h,gs,dr,n,os⟩ :=
 iM H hsc e R S y fun h' as' n' S' p=>q h' n' (ha▸dq p hm▸S')
theorem tO (H:H2 w ρ O hk r0) {e:Expr} {v:AV} (hsc:env.scope=sc) (ev:bB w.params hk n0 sc e s = .leaf (.rt v) s') {Q:Value->Shared->Prop} {E:Value->Shared->Prop} (R:Room A (n0 + r0)) (S:SR w ρ O G env h s as)
  (q:∀V h' as' n',SR w ρ O G env h' s' as'->aM as as'->Dn ρ as' v V->Q V ⟨h',gs,dr,n',os⟩):wpAny (model pr w) A (eval e env) Q E ⟨h,gs,dr,n,os⟩:=by
 have y:(bB w.params hk n0 env.scope e s).ok ρ fun f s''=>f = .rt v/\s''=s':=by refine aa hsc (aa ev ?_); exact ⟨rfl,rfl⟩
 unfold bB at y
 exact (H.run n0).E R y S fun u V s3 h3 as3 n3 y S3 p3 du=>q V h3 as3 n3 (y.2▸S3.pcs (pc:=[]) fun zw m=>nomatch m) p3 (Fl.rt.inj y.1▸du)
theorem NE (H:H2 w ρ O hk r0) {e:Expr} {whole:Sem Value} {ce:CE} (hsc:env.scope=sc) (ev:kO w.params hk n0 sc e s = .br ce (.leaf (.rt (.bool true)) s) (.leaf (.rt (.bool false)) s)) {Q:Bool->Shared->Prop} {E:Value->Shared->Prop} (R:Room A (n0 + r0)) (S:SR w ρ O G env h s as) (hw:dY e=true->whole=eval e env)
  {p:Bool} (hp:ce.den ρ↔p=true) (q:∀h' n',SR w ρ O G env h' s as->Q p ⟨h',gs,dr,n',os⟩):wpAny (model pr w) A (isTrue e env whole) Q E ⟨h,gs,dr,n,os⟩ :=
 rR H hsc ev R S hw ⟨fun c b h' as' n' e S' pp=>by
   have e:Fl.rt (.bool true)=Fl.rt (.bool b):=e
   refine aa (Eq.symm (AV.bool.inj (Fl.rt.inj e))) (aa (Eq.symm (hp.mp c)) ?_); exact q h' n' (S.same S' pp rfl▸S'),
  fun c b h' as' n' e S' pp=>by
   have e:Fl.rt (.bool false)=Fl.rt (.bool b):=e
   refine aa (Eq.symm (AV.bool.inj (Fl.rt.inj e))) (aa (Eq.symm (Bool.eq_false_iff.mpr fun z=>c (hp.mpr z))) ?_); exact q h' n' (S.same S' pp rfl▸S')⟩
theorem Room.u {k:Nat} (R:Room A k):A.units < cLine:=Nat.lt_of_le_of_lt (Nat.le_trans (Nat.le_add_right _ _) (Nat.le_add_right _ _)) R.un
theorem Fv {y:Addr}:G1 h y y=none:=if_pos rfl
theorem gT {y a:Addr} (n:a≠y):G1 h y a=h.get? a:=if_neg n
theorem Ge {y:Addr}:∀a o,G1 h y a=some o->h.get? a=some o:=fun a o e=>by
 by_cases q:a=y
 ·exact ap ((if_pos q).symm.trans e)
 ·exact (gT q).symm.trans e
theorem zp {y:Addr} {g:Gr} (q:bf (G1 h y) g):∀b o,b≠y->h.get? b=some o->g b=some o:=fun b o n e=>q b o ((gT n).trans e)
theorem nX:∀{l:List AO},l.countP AO.own<=1->∀{i j:Nat} {o o':AO},l[i]? = some o->l[j]? = some o'->o.own=true->o'.own=true->i=j
 | [],_,_,_,_,_,e,_,_,_=>ap e
 | a::l,c,i,j,o,o',e,e',w,w'=>by
  have no:a.own=true->∀{k:Nat} {o:AO},l[k]? = some o->o.own=true->False:=fun wa k o e w=>by
   rw [List.countP_cons_of_pos wa] at c
   exact Nat.not_lt.mpr (Nat.le_of_succ_le_succ c) (List.countP_pos_iff.mpr ⟨o,List.mem_of_getElem? e,w⟩)
  cases i with
  | zero=>cases j with
   | zero=>rfl
   | succ j=>exact (no (aF e▸w) e' w').elim
  | succ i=>cases j with
   | zero=>exact (no (aF e'▸w') e w).elim
   | succ j =>
    refine congrArg (· + 1) (nX (Nat.le_trans ?_ c) e e' w w')
    refine aa List.countP_cons ?_; exact Nat.le_add_right _ _
theorem Co.one {y:Addr} {ob:List AO} {as:List Addr} (B:gZ w (G1 h y)) (og:∀a o,O.g a=some o->G1 h y a=some o) (c:Nat.ble (ob.countP AO.own) 1=true) (x:All2 (fun a o=>aC ρ O as h a o/\(o.own=true->a=y)) as ob):Co w ρ O (G1 h y) h ob [] as:=by
 refine ⟨B,Ge,og,x.len,fun i o a eo ea=>?_,fun i j o o' a e1 e2 w1 w2 zw zw=>nX (Nat.le_of_ble_eq_true c) e1 e2 w1 w2,fun zw m=>nomatch m⟩
 let ⟨o',z1,z2,z3⟩:=x.get ea
 have eo:o=o':=aF (eo.symm.trans z1)
 exact ⟨eo▸z2,fun ow=>by refine aa (z3 (eo▸ow)) ?_; exact Fv⟩
end
noncomputable def cZ (vs:List Int) (ls:Nat->List Int):Rho:=⟨fun i=>vs.getD i 0,fun k a b c=>match k with | 900=>((ls a.toNat).length:Int) | k=>GH k a b c,ls⟩
noncomputable def CA (Z L F L' F':List Int):Nat->List Int | 1=>Z | 3=>L | 4=>F | 5=>L' | 6=>F' | _=>[]
noncomputable def OR (g:Gr):Opq:=⟨g,fun zw zw=>False,fun zw h=>h.elim,fun zw h=>h.elim⟩
section
variable {w:World} {ρ:Rho} {O:Opq} {G:Gr} {env:Env} {A:Around} {gs:Array GenState} {dr:Drawn} {os:OsState} {h:Heap} {n:Nat} {Er:Value->Shared->Prop}
theorem Ip {o e:Expr} {name:Str} {id:String} {apos pos:Pos} {st:Shared} {Q:Value->Shared->Prop} (c1:(apos.endLine == pos.line)=true) (c3:cu o=false) (c4:aK e=false) (slot:Slot "list" name id) (hty:typeOf (.builtin id)=pure (.type "method_descriptor"))
  (q:wpAny (model pr w) A (eval o env) (fun V s₁=>∃l items,V = .ref l/\s₁.heap.PlainList l items/\wpAny (model pr w) A (callWith pos (.builtin id) [.ref l] [(false,eval e env)] []) Q Er s₁) Er st) :
  wpAny (model pr w) A (eval (.Call (.Attribute o name apos) [e] [] pos) env) Q Er st:=by
 show wpAny (model pr w) A (do
  let ov <- attributeBase o name env (eval o env)
  standAt apos.atName
  methodCall o name apos pos env ov (1 + 0) (backTo pos (starEach [e] env)) []) Q Er _
 refine aa (eQ c3) ?_
 refine wpAny_bind (wpAny_mono q (fun V s₁ z=>?_) fun zw zw z=>z)
 apply bc;intro ng
 obtain ⟨l,items,rfl,⟨m,pl⟩,z⟩:=z
 apply ng;clear ng
 refine wpAny_bind (wpAny_standAt ?_)
 have ev:backTo pos (starEach [e] env) = [(false,eval e env)]:=by refine aa (aX c4) ?_; rfl
 refine aa ev ?_
 unfold methodCall
 refine aa (show methodCallForm (1 + 0) [(false,eval e env)] []=true from rfl) ?_
 refine wpAny_bind (wpAny_holding (getMethod_list_of slot hty (items:=items) ⟨_,pl,rfl,m,rfl⟩ ?_ ?_))
 ·exact ⟨_,pl,rfl⟩
 refine wpAny_bind (wpAny_of_eq (show methodCallPos true o env apos pos=pure pos from ?_) z)
 unfold methodCallPos; refine aa c1 ?_; simp
theorem yk (P:Params):al P 878=(al P 878).take 1++(.While (ch (jK P)) (tQ (jK P)) [] (rh (jK P))::(al P 878).drop 2):=by kernel_rfl
theorem BH (P:Params):tQ (jK P) = [.Expr (.Call (.Attribute (ca (ax (ch (kF P)))) (S' "append") (d6 (ax (ch (kF P))))) [.Call (.Attribute (ca (ax (bq (ch (kF P))))) (S' "pop") (d6 (ax (bq (ch (kF P)))))) [bq (bq (ch (kF P)))] [] (cg (bq (ch (kF P))))] [] (cg (ch (kF P)))) (rh (kF P))]:=by kernel_rfl
theorem Bm (P:Params):((d6 (ax (ch (kF P)))).endLine == (cg (ch (kF P))).line)=true/\((d6 (ax (bq (ch (kF P))))).endLine == (cg (bq (ch (kF P)))).line)=true/\cu (ca (ax (ch (kF P))))=false/\cu (ca (ax (bq (ch (kF P)))))=false/\aK (bq (bq (ch (kF P))))=false:=⟨by kernel_rfl,by kernel_rfl,by kernel_rfl,by kernel_rfl,by kernel_rfl⟩
theorem Fj (P:Params):dL P 878=some (aZ P 878):=by kernel_rfl
theorem vg (P:Params):aQ (aZ P 878) [.loc 0,.loc 1]=some [(S' "heap",.loc 0),(S' "items",.loc 1)]:=by kernel_rfl
noncomputable def JZ:List AO:=[.lst [.int (.v 0),.int (.v 1)],.fz (.rf 1)]
theorem FU (P:Params):(⟨[(S' "heap",AV.loc 0),(S' "items",AV.loc 1)].reverse.filter (fun x=>decide ((aZ P 878).scope.names.lookup x.1=some .local)),(ae (aZ P 878).scope.names).zip ((List.range (ae (aZ P 878).scope.names).length).map (JZ.length + ·)),JZ++(ae (aZ P 878).scope.names).map (fun n=>.cell ([(S' "heap",AV.loc 0),(S' "items",AV.loc 1)].reverse.lookup n)),[]⟩:St)=⟨[(S' "items",.loc 1),(S' "heap",.loc 0)],[],[.lst [.int (.v 0),.int (.v 1)],.fz (.rf 1)],[]⟩:=by kernel_rfl
theorem JK (P:Params):kO P fX 12 (bp P 878) (ch (jK P)) (j7 (.rf 4)) = .br (.emp 3) (.leaf (.rt (.bool false)) ⟨mU,[],[.lst [.int (.v 0),.int (.v 1)],.rf 3,.rf 4,.pl []],[]⟩) (.leaf (.rt (.bool true)) ⟨mU,[],[.lst [.int (.v 0),.int (.v 1)],.rf 3,.rf 4,.pl []],[]⟩):=by kernel_rfl
theorem Fi (P:Params):(bB P fX 12 (bp P 878) (ca (ax (ch (kF P)))) (j7 (.rf 4))).vc [0,1,2] (.rt (.loc 2)) (j7 (.rf 4)) = .ok [.ie (.v 0) (.v 0),.ie (.v 1) (.v 1),.rf 3 3,.rf 4 4]:=by kernel_rfl
theorem C9 (P:Params):(bB P fX 12 (bp P 878) (ca (ax (bq (ch (kF P))))) (j7 (.rf 4))).vc [0,1,2] (.rt (.loc 1)) (j7 (.rf 4)) = .ok [.ie (.v 0) (.v 0),.ie (.v 1) (.v 1),.rf 3 3,.rf 4 4]:=by kernel_rfl
theorem FM:aN [0,1,2] ⟨mU,[],[.lst [.int (.v 0),.int (.v 1)],.rf 3,.rf 4,.pl []],[]⟩ (j7 (.rf 4))=some [.ie (.v 0) (.v 0),.ie (.v 1) (.v 1),.rf 3 3,.rf 4 4]:=by kernel_rfl
theorem C5:aN [0,1,2] ⟨mU,[],[.lst [.int (.v 2),.int (.v 3)],.rf 5,.rf 6],[]⟩ (j7 (.rf 4))=some [.ie (.v 2) (.v 0),.ie (.v 3) (.v 1),.rf 5 3,.rf 6 4]:=by kernel_rfl
theorem Bv {f:Int->Value}:∀(l:List Int) (i:Nat),(l.map f).toArray.eraseIdxIfInBounds i=((l.eraseIdx i).map f).toArray:=fun l i=>by
 rw [List.eraseIdxIfInBounds_toArray]
 congr 1
 induction l generalizing i with
 | nil=>rfl
 | cons a r ih=>cases i with | zero=>rfl | succ i=>exact congrArg (f a :: ·) (ih i)
noncomputable def o6 (x c:Int) (L F:List Int):Rho:=cZ [x,c] (CA [] L F [] [])
section
variable {x c:Int} {L F:List Int} {y la fa:Addr} {E:Value->Shared->Prop}
theorem Iw (HH:∀{vs ls},H2 w (cZ vs ls) (OR G) fX 40) (esc:env.scope=bp w.params 878) (R:Room A (12 + 40)) (S:SR w (o6 x c L F) (OR G) G env h (j7 (.rf 4)) [y,la,fa]) {Q:Bool->Shared->Prop}
  (q:∀b,(L = []↔b=false)->∀h' n',SR w (o6 x c L F) (OR G) G env h' (j7 (.rf 4)) [y,la,fa]->Q b ⟨h',gs,dr,n',os⟩):wpAny (model pr w) A (isTrue (ch (jK w.params)) env (eval (ch (jK w.params)) env)) Q E ⟨h,gs,dr,n,os⟩:=by
 have k:∀b,(L = []↔b=false)->∀d h' as' n',Fl.rt (.bool b) = .rt (.bool d)->SR w (o6 x c L F) (OR G) G env h' ⟨mU,[],[.lst [.int (.v 0),.int (.v 1)],.rf 3,.rf 4,.pl []],[]⟩ as'->aM [y,la,fa] as'->Q d ⟨h',gs,dr,n',os⟩:=fun b hb d h' as' n' e S p=>by
  obtain ⟨t,rfl⟩:=p
  refine aa (Eq.symm (AV.bool.inj (Fl.rt.inj e))) ?_
  exact q b hb h' n' (S.re (s':=j7 (.rf 4)) (ρ':=o6 x c L F) [0,1,2] FM ⟨rfl,rfl,rfl,rfl⟩)
 exact rR HH esc (JK w.params) R S (fun zw=>rfl) ⟨fun hE=>k false (iff_of_true hE rfl),fun hE=>k true (iff_of_false hE nofun)⟩
theorem xq (HH:∀{vs ls},H2 w (cZ vs ls) (OR G) fX 40) (esc:env.scope=bp w.params 878) (R:Room A (12 + 40)) (S:SR w (o6 x c L F) (OR G) G env h (j7 (.rf 4)) [y,la,fa]) (hL:0 < L.length) (hz:F.length + L.length<=100) (hc:0<=c) (hc2:c < 1000000) {Q:Flow->Shared->Prop}
  (q:∀h' n',SR w (o6 (cb x c L.length) (c + 1) (L.eraseIdx (bu x c L.length).toNat) (F++[L.getD (bu x c L.length).toNat 0])) (OR G) G env h' (j7 (.rf 4)) [y,la,fa]->Q .next ⟨h',gs,dr,n',os⟩):wpAny (model pr w) A (execs (tQ (jK w.params)) env) Q E ⟨h,gs,dr,n,os⟩:=by
 have bi:=bC (a:=x) (c:=c) (m:=L.length) (Int.ofNat_lt.mpr hL)
 have ei:bu x c L.length=((bu x c L.length).toNat:Nat):=(Int.toNat_of_nonneg bi.1).symm
 have hlt:(bu x c L.length).toNat < L.length:=Int.ofNat_lt.mp (ei▸bi.2)
 apply bc;intro ng
 obtain ⟨p1,p2,p3,p4,p5⟩:=Bm w.params
 rw [BH] at ng
 refine ng (wpAny_execs_cons (wpAny_Expr_any (Ip p1 p3 rfl PySem.F.slot_list_append PySem.F.type_list_append (qN (ρ':=o6 x c L F) HH esc (Fi w.params) R S rfl (as2:=[y,la,fa]) rfl ⟨rfl,rfl,rfl,rfl⟩ fun V h6 n6 S6 dv=>?_)) (by unfold interactive; refine aa S.ek ?_; rfl) rfl)); clear ng
 have pf:At h6.get? fa (.pl (F.map ak)):=(S6.ob 2 _ fa rfl rfl).1
 refine ⟨fa,_,cA dv rfl,(let ⟨o,e1,n1,e2⟩:=pf; ⟨n1,e2▸e1⟩),P.append_list (Ip p2 p4 p5 PySem.F.slot_list_pop PySem.F.type_list_pop (qN (ρ':=o6 x c L F) HH esc (C9 w.params) R S6 rfl (as2:=[y,la,fa]) rfl ⟨rfl,rfl,rfl,rfl⟩ fun V h7 n7 S7 dv=>?_))⟩
 have pl:At h7.get? la (.pl (L.map ak)):=(S7.ob 1 _ la rfl rfl).1
 refine ⟨la,_,cA dv rfl,(let ⟨o,e1,n1,e2⟩:=pl; ⟨n1,e2▸e1⟩),P.pop_at_list (qN (ρ':=cZ [x,c,cb x c L.length,c + 1,bu x c L.length] (CA [] L F (L.eraseIdx (bu x c L.length).toNat) (F++[L.getD (bu x c L.length).toNat 0]))) HH esc (xJ w.params) R S7 rfl (as2:=[y,la,fa]) rfl ?_ fun V h8 n8 S8 dv=>?_)⟩
 ·exact ⟨⟨rfl,show L.length<=1000 by omega⟩,show (0:Int) < L.length by omega,show (L.length:Int) < 1000000 by omega,hc,hc2,rfl,rfl,rfl,rfl,rfl⟩
 apply bc;intro ng
 obtain ⟨ti,ev⟩:=dv
 obtain ⟨ol,f1,nl,e1⟩:At h8.get? la (.pl (L.map ak)):=(S8.ob 1 _ la rfl rfl).1
 subst e1
 have il:IsL h8 la (L.map ak).toArray nl:=f1
 have S9:=S8.obj (o':=.rf 5) (j:=1) rfl rfl rfl (Heap.SameBut.update h8 la (Obj.mapSeq fun xs=>xs.eraseIdxIfInBounds (bu x c L.length).toNat)) ⟨_,il.update _,_,by rw [Bv]; rfl⟩
 obtain ⟨of,f2,nf,e2⟩:At (h8.update la (Obj.mapSeq fun xs=>xs.eraseIdxIfInBounds (bu x c L.length).toNat)).get? fa (.pl (F.map ak)):=(S9.ob 2 _ fa rfl rfl).1
 subst e2
 have il2:IsL _ fa (F.map ak).toArray nf:=f2
 have ep:((F.map ak).toArray.push (ak (L.getD (bu x c L.length).toNat 0)))=((F++[L.getD (bu x c L.length).toNat 0]).map ak).toArray:=by rw [List.push_toArray,List.map_append]; rfl
 have S10:=S9.obj (o':=.rf 6) (j:=2) rfl rfl rfl (Heap.SameBut.update _ fa (Obj.mapSeq fun xs=>xs.push (ak (L.getD (bu x c L.length).toNat 0)))) ⟨_,il2.update _,_,by refine aa ep ?_; rfl⟩
 have S11:=S10.re (s':=j7 (.rf 4)) (ρ':=o6 (cb x c L.length) (c + 1) (L.eraseIdx (bu x c L.length).toNat) (F++[L.getD (bu x c L.length).toNat 0])) [0,1,2] C5 ⟨rfl,rfl,rfl,rfl⟩
 have sz:(L.map ak).toArray.size=L.length:=by rw [List.size_toArray,List.length_map]
 have zf:(F.map ak).toArray.size=F.length:=by rw [List.size_toArray,List.length_map]
 refine ng ⟨_,nl,bu x c L.length,ti,(bu x c L.length).toNat,ak (L.getD (bu x c L.length).toNat 0),by refine aa sz (aa sizeLine_eq ?_); omega,ev,il,?_,?_,?_,_,nf,?_,il2,wpAny_execs_nil (q _ _ S11)⟩
 ·unfold Builtin.List.listFitsIndex; simp; omega
 ·unfold seqIndex?; simp; omega
 ·simp [hlt]
 ·refine aa zf (aa sizeLine_eq ?_); omega
theorem As (HH:∀{vs ls},H2 w (cZ vs ls) (OR G) fX 40) (esc:env.scope=bp w.params 878) (R:Room A (12 + 40)) (S:SR w (o6 x c [] F) (OR G) G env h (j7 (.rf 4)) [y,la,fa]) {Q:Flow->Shared->Prop}
  (q:∀h' n' z Ys,(∀b o,G b=some o->h'.get? b=some o)->At h'.get? y (.lst Ys)->IntsAre Ys [x,c]->G z=none->z≠y->At h'.get? z (.pl (F.map ak))->Q (.ret (.ref z)) ⟨h',gs,dr,n',os⟩) :
  wpAny (model pr w) A (execs ((al w.params 878).drop 2) env) Q E ⟨h,gs,dr,n,os⟩:=by
 refine uO (ρ':=o6 x c [] F) HH esc (yb w.params) R S ⟨rfl,rfl,rfl⟩ fun V h6 as6 n6 S6 p6 dv=>?_
 apply bc;intro ng
 obtain ⟨t,rfl⟩:=p6
 obtain ⟨u1,ow⟩:=S6.ob 1 _ _ rfl rfl
 obtain ⟨⟨Ys,v1,v2⟩,ow2⟩:=S6.ob 0 _ y rfl rfl
 rw [cA dv rfl] at ng
 exact ng (q h6 n6 _ Ys S6.kp v2 (dQ (es:=[.v 0,.v 1]) v1) (ow rfl).2 (fun e=>absurd (S6.nd 0 1 _ _ y rfl rfl rfl rfl rfl (congrArg some e)) (by decide)) u1)
end
def NC (w:World) (G:Gr) (x c:Int) (Z:List Int) (y la fa:Addr) (env:Env) (gs:Array GenState) (dr:Drawn) (os:OsState) (k:Nat) (st:Shared):Prop:=∃x' c' L F h3 n,L.length=k/\st=⟨h3,gs,dr,n,os⟩/\SR w (o6 x' c' L F) (OR G) G env h3 (j7 (.rf 4)) [y,la,fa]/\fS k x' c' L F=fS Z.length x c Z []/\F.length + k<=100/\0<=c'/\c' + k<=990100
theorem xC {y a:Addr} {Vs:List Value} {x c:Int} {Z:List Int} (B:gZ w (G1 h y)) (L:At h.get? y (.lst Vs)) (hi:IntsAre Vs [x,c]) (I:At h.get? a (.pl (Z.map ak))) (hay:a≠y) (hz:Z.length<=100) (hc:0<=c/\c<=990000) (R:Room A 60) {Q:Value->Shared->Prop} {E:Value->Shared->Prop}
  (q:∀h' n' z Vs',(∀b o,b≠y->h.get? b=some o->h'.get? b=some o)->At h'.get? y (.lst Vs')->IntsAre Vs' [(fS Z.length x c Z []).2.1,(fS Z.length x c Z []).2.2]->h.get? z=none->At h'.get? z (.pl ((fS Z.length x c Z []).1.map ak))->Q (.ref z) ⟨h',gs,dr,n',os⟩) :
  wpAny (model pr w) A (call (.ref 878) [.ref y,.ref a]) Q E ⟨h,gs,dr,n,os⟩:=by
 apply bc;intro ng
 apply bc;intro ng
 obtain ⟨t0,t1,eV⟩:=jo hi
 apply ng;clear ng
 have HH:∀{vs ls},H2 w (cZ vs ls) (OR (G1 h y)) fX 40:=⟨B,by decide,d8 rfl rfl⟩
 have C0:Co w (cZ [x,c] (CA Z [] [] [] [])) (OR (G1 h y)) (G1 h y) h JZ [] [y,a] :=
  Co.one B (fun zw zw e=>e) rfl (.cons ⟨⟨_,.cons ⟨t0,rfl⟩ (.cons ⟨t1,rfl⟩ .nil),eV▸L⟩,fun zw=>rfl⟩ (.cons ⟨I.le fun o e=>(gT hay).trans e,nofun⟩ .nil))
 refine ng (go (R.le (m:=52 + 1) (by decide)) (Fj w.params) (vg w.params) C0 (.cons ⟨y,rfl,rfl⟩ (.cons ⟨a,rfl,rfl⟩ .nil)) fun A' env h1 n1 as1 R1 esc p1 S1 E'=>?_); clear ng
 refine dh fun Q' E' kq zw=>?_
 replace esc:env.scope=bp w.params 878:=esc
 replace R1:Room A' (12 + 40):=R1
 rw [FU w.params,p1.eq S1.sz] at S1
 refine aa (show (aZ w.params 878).body=_ from yk w.params) ?_
 refine aH (iM (ρ':=o6 x c Z []) HH esc (xj w.params) R1 S1 ⟨show Z.length + 0<=1000 by omega,rfl,rfl,rfl⟩ fun h2 as2 n2 S2 p2=>?_)
 apply bc;intro ng
 apply bc;intro ng
 obtain ⟨t,rfl⟩:=p2
 obtain ⟨b,eb,⟨Us,u1,u2⟩,-⟩:=S2.get (i:=2) rfl
 apply ng;clear ng
 rw [u1.n] at u2
 have S3:SR w (o6 x c Z []) (OR (G1 h y)) (G1 h y) env h2 (j7 (.rf 4)) [y,t.getD 0 0,t.getD 1 0]:=S2.obj (o':=.rf 4) rfl rfl eb ⟨rfl,fun zw zw=>rfl⟩ u2
 refine ng (wpAny_execs_cons (wpAny_While (codeAny_whileLoop (NC w (G1 h y) x c Z y (t.getD 0 0) (t.getD 1 0) env gs dr os) (fun k st i=>dh fun Q2 zw kq2 zw=>?_) Z.length ⟨x,c,Z,[],h2,n2,rfl,rfl,S3,rfl,(by simpa using hz),hc.1,by omega⟩))); clear ng
 apply bc;intro ng
 obtain ⟨x',c',L,F,h3,n3,hk,rfl,S,em,b1,b2,b3⟩:=i
 apply ng;clear ng
 refine Iw HH esc R1 S fun b hb h4 n4 S4=>kq2 _ _ ?_
 induction b with
 | false =>
  have hE:L = []:=hb.mpr rfl
  apply bc;intro ng
  subst hE
  subst hk
  apply ng;clear ng
  refine aa (if_neg Bool.false_ne_true) ?_
  refine wpAny_execs_nil (As HH esc R1 S4 fun h6 n6 z Ys k6 v2 iv gz zy u1=>kq _ _ (q h6 n6 z Ys (zp k6) v2 ?_ ((gT zy).symm.trans gz) ?_))
  ·refine aa (Eq.symm em) ?_; exact iv
  ·refine aa (Eq.symm em) ?_; exact u1
 | true =>
  have hL:0 < L.length:=List.length_pos_iff.mpr fun z=>nomatch hb.mp z
  have bi:=bC (a:=x') (c:=c') (m:=L.length) (Int.ofNat_lt.mpr hL)
  cases k with
  | zero=>omega
  | succ k =>
  refine aa (if_pos rfl) ?_
  refine xq HH esc R1 S4 hL (by omega) b2 (by omega) fun h5 n5 S5=>⟨k,Nat.lt_succ_self _,_,_,_,_,h5,n5,?_,rfl,S5,?_,by refine aa List.length_append (aa List.length_singleton ?_); omega,by omega,by omega⟩
  ·refine aa (List.length_eraseIdx_of_lt (by omega)) (aa hk ?_); rfl
  ·refine aa (Eq.symm em) ?_; rfl
end
section
variable {w:World} {A:Around} {gs:Array GenState} {dr:Drawn} {os:OsState} {h:Heap} {n:Nat} {g:Gr} {F:List Addr}
theorem AP (P:Params) (k:Nk):Mv P k = .leaf (.rt (.bool k.run)) bX:=by induction k using Nk.casesOn <;> kernel_rfl
noncomputable def EA (P:Params):Expr:=.Compare (.Attribute (.Subscript (ca (ca (nD P))) (jM (ca (nD P))) (d6 (ca (nD P)))) (S' "kind") (d6 (nD P))) [.NotEq] [ED (i6 1 (ch (dU P)))] (i6 1 (ch (dU P))).pos
noncomputable def F2 (P:Params):Expr:=.BoolOp .And [i6 0 (ch (dU P)),EA P,i6 2 (ch (dU P))] (wn (ch (dU P)))
theorem vG (P:Params):al P 892=(al P 892).take 2++(.While (F2 P) (tQ (dU P)) [] (rh (dU P))::(al P 892).drop 3):=by kernel_rfl
theorem Es (P:Params):cv (jM (ca (nD P)))=false/\behindInMarks .NotEq (ED (i6 1 (ch (dU P))))=false:=⟨by kernel_rfl,by kernel_rfl⟩
theorem DD (P:Params):dL P 892=some (aZ P 892):=by kernel_rfl
theorem wc (P:Params):aQ (aZ P 892) [.loc 3,.loc 4]=some [(S' "heap",.loc 3),(S' "items",.loc 4)]:=by kernel_rfl
theorem Fq (P:Params):(⟨[(S' "heap",AV.loc 3),(S' "items",AV.loc 4)].reverse.filter (fun x=>decide ((aZ P 892).scope.names.lookup x.1=some .local)),(ae (aZ P 892).scope.names).zip ((List.range (ae (aZ P 892).scope.names).length).map (lS.length + ·)),lS++(ae (aZ P 892).scope.names).map (fun n=>.cell ([(S' "heap",AV.loc 3),(S' "items",AV.loc 4)].reverse.lookup n)),[]⟩:St)=⟨[(S' "items",.loc 4),(S' "heap",.loc 3)],[],lS,[]⟩:=by kernel_rfl
theorem EX (P:Params):kO P fX 12 (bp P 892) (i6 0 (ch (dU P))) bX = .req (.ln 1 (CC 1)) (.br (.lt (.v 3) (CC 1)) (.leaf (.rt (.bool true)) bX) (.leaf (.rt (.bool false)) bX)):=by kernel_rfl
theorem C7 (P:Params):kO P fX 12 (bp P 892) (.BoolOp .And [i6 2 (ch (dU P))] (wn (ch (dU P)))) bX = .br (.lt (.sub (.v 3) (.v 2)) (.c 4)) (.leaf (.rt (.bool true)) bX) (.leaf (.rt (.bool false)) bX):=by kernel_rfl
noncomputable def LU:VC:=.ok [.ie (.v 0) (.v 0),.ie (.v 1) (.v 1),.rf 1 1,.ie (.v 2) (.v 2),.ie (.v 3) (.v 3)]
theorem Dd (P:Params):(bB P fX 12 (bp P 892) (ca (ca (nD P))) bX).vc zH (.rt (.loc 4)) bX=LU:=by kernel_rfl
theorem Fc (P:Params):(bB P fX 12 (bp P 892) (jM (ca (nD P))) bX).vc zH (.rt (.int (.v 3))) bX = .ok [.ie (.v 3) (.v 3),.ie (.v 0) (.v 0),.ie (.v 1) (.v 1),.rf 1 1,.ie (.v 2) (.v 2),.ie (.v 3) (.v 3)]:=by kernel_rfl
theorem Fg (P:Params) (k:Nk):(bB P fX 12 (bp P 892) (ED (i6 1 (ch (dU P)))) ⟨BD,[],lS++(k.T 9 11).map .fz,[]⟩).vc zH (.rt (.int (.c 6))) bX = .ok [.ie (.c 6) (.c 6),.ie (.v 0) (.v 0),.ie (.v 1) (.v 1),.rf 1 1,.ie (.v 2) (.v 2),.ie (.v 3) (.v 3)]:=by induction k using Nk.casesOn <;> kernel_rfl
theorem EF:aN zH bX bX=some [.ie (.v 0) (.v 0),.ie (.v 1) (.v 1),.rf 1 1,.ie (.v 2) (.v 2),.ie (.v 3) (.v 3)]:=by kernel_rfl
noncomputable def qQ (x c:Int) (Z:List Int) (e:Nat):Rho:=cZ [cb x c Z.length,c + 1,bu x c Z.length,(e:Int)] (CA Z [] [] [] [])
noncomputable def Ks (x c:Int) (Z:List Int) (e:Nat) (l:List Int):Rho:=cZ ([cb x c Z.length,c + 1,bu x c Z.length,(e:Int),0,0,0,0,0,0,0]++l) (CA Z [] [] [] [])
noncomputable def lT (f0 f1 f2 y a:Addr):List Addr:=[f0,f1,f2,y,a,y,y,y,y]
noncomputable def zg (nds:List Nd):List Bool:=nds.map fun nd=>nd.k.run
section
variable {G:Gr} {env:Env} {x c:Int} {Z:List Int} {nds:List Nd} {f0 f1 f2 y a:Addr} {e:Nat} {E:Value->Shared->Prop}
theorem DX (HH:∀{vs ls},H2 w (cZ vs ls) (OR G) fX 40) (esc:env.scope=bp w.params 892) (R:Room A (12 + 40)) (S:SR w (qQ x c Z e) (OR G) G env h bX (lT f0 f1 f2 y a)) {whole:Sem Value} {Q:Bool->Shared->Prop}
  (q:∀h' n',SR w (qQ x c Z e) (OR G) G env h' bX (lT f0 f1 f2 y a)->Q (decide ((e:Int) - bu x c Z.length < 4)) ⟨h',gs,dr,n',os⟩):wpAny (model pr w) A (isTrue (.BoolOp .And [i6 2 (ch (dU w.params))] (wn (ch (dU w.params)))) env whole) Q E ⟨h,gs,dr,n,os⟩ :=
 NE HH esc (C7 w.params) R S (fun z=>nomatch z) (p:=decide ((e:Int) - bu x c Z.length < 4)) (show (e:Int) - bu x c Z.length < 4↔_ from decide_eq_true_iff.symm) q
theorem z5 (P:Params) (k:Nk) (ρ:Rho):(Mv P k).ok ρ fun f s=>f = .rt (.bool k.run)/\s=bX:=by rw [AP]; exact ⟨rfl,rfl⟩
theorem xp (r:List Addr) (i:Nat):(lT f0 f1 f2 y a++r)[9 + i]? = r[i]?:=(List.getElem?_append_right (Nat.le_add_right 9 i)).trans (congrArg (r[·]?) (Nat.add_sub_cancel_left 9 i))
theorem FO (l:List Int) (j:Nat):(Ks x c Z e l).v (11 + j)=l.getD j 0:=by
 show ([cb x c Z.length,c + 1,bu x c Z.length,(e:Int),0,0,0,0,0,0,0]++l).getD (11 + j) 0=_
 refine aa (List.getD_eq_getElem?_getD) (aa (List.getElem?_append_right (Nat.le_add_right 11 j)) (aa (List.getD_eq_getElem?_getD) ?_))
 exact congrArg (fun i=>(l[i]?).getD 0) (Nat.add_sub_cancel_left 11 j)
theorem Gs {g:Gr} (HH:∀{vs ls},H2 w (cZ vs ls) (OR G) fX 40) (esc:env.scope=bp w.params 892) (R:Room A (12 + 40)) (kg:bf g G) (I:At G a (.pl (Z.map ak))) (It:All2 (fun V nd=>∃x,V = .ref x/\bQ g [f0,f1,f2] x nd/\nd.ok) (Z.map ak) nds) (hz:Z.length<=1000) (hlt:e < Z.length)
  (S:SR w (qQ x c Z e) (OR G) G env h bX (lT f0 f1 f2 y a)) {whole:Sem Value} {Q:Bool->Shared->Prop}
  (q:∀h' n',SR w (qQ x c Z e) (OR G) G env h' bX (lT f0 f1 f2 y a)->Q ((zg nds).getD e false && decide ((e:Int) - bu x c Z.length < 4)) ⟨h',gs,dr,n',os⟩) :
  wpAny (model pr w) A (isTrue (.BoolOp .And [EA w.params,i6 2 (ch (dU w.params))] (wn (ch (dU w.params)))) env whole) Q E ⟨h,gs,dr,n,os⟩:=by
 apply bc;intro ng
 apply bc;intro ng
 obtain ⟨s1,s2⟩:=Es w.params
 obtain ⟨nd,hnd,xx,exx,N,ok⟩:=It.get (show (Z.map ak)[e]? = some (ak Z[e]) by refine aa (List.getElem?_map) (aa (List.getElem?_eq_getElem hlt) ?_); rfl)
 have kd:(zg nds).getD e false=nd.k.run:=by unfold zg; refine aa (List.getD_eq_getElem?_getD) (aa (List.getElem?_map) (aa hnd ?_)); rfl
 obtain ⟨nas,na,nx⟩:=jJ N rfl rfl (as:=lT f0 f1 f2 y a) (FO (x:=x) (c:=c) (Z:=Z) (e:=e) nd.a)
 apply ng;clear ng
 refine ng (isTrue_and (wpAny_isTrue_Compare1 ?_ s2)); clear ng
 rw [kd] at q
 rw [arm_eval_Attribute,eQ rfl]
 refine wpAny_bind (Subscript_ (qN (ρ':=qQ x c Z e) HH esc (Dd w.params) R S rfl (as2:=lT f0 f1 f2 y a) rfl ⟨rfl,rfl,rfl,rfl,rfl⟩ fun V h6 n6 S6 dv=>?_))
 refine qN (ρ':=Ks x c Z e nd.a) HH esc (Fc w.params) R S6 rfl (as2:=lT f0 f1 f2 y a) rfl ⟨rfl,rfl,rfl,rfl,rfl,rfl⟩ fun U h7 n7 S7 du=>?_
 refine aa (show V = .ref a from cA dv rfl) ?_
 refine du.elim fun tt eU=>?_
 refine aa eU ?_
 have hl:h7.IsList a (Z.map ak).toArray:=At.pl (I.le fun o e=>S7.kp _ _ e)
 refine tail_any (s:=⟨h7,gs,dr,n7,os⟩) (hl.typeIs (s:=⟨h7,gs,dr,n7,os⟩)) slot_list_getitem.lookup (wpAny_getItem_list (s:=⟨h7,gs,dr,n7,os⟩) (k:=(e:Int)) hl (Int.natCast_nonneg e) (Int.lt_of_lt_of_le (Int.ofNat_lt.mpr (Nat.lt_of_lt_of_le hlt hz)) (by decide)) (x:=.ref xx) (by rw [List.getElem?_toArray,Int.toNat_natCast,List.getElem?_map,List.getElem?_eq_getElem hlt]; exact congrArg some exx) ?_) (dN s1 _ _)
 have S8:=S7.join (us:=nd.k.T 9 11) (nx.mono fun zw zw z=>z.keep .refl (kg _))
 refine wpAny_bind (wpAny_standAt (wpAny_bind (wpAny_holding (i7 (z5 w.params nd.k _) S8 ⟨xx,(xp _ _).trans na,rfl⟩ fun v V n8 y8 dv=>wpAny_bind (wpAny_letTemporaryGo (wpAny_pure ?_))))))
 refine qH (ρ':=Ks x c Z e nd.a) HH esc (Fg w.params nd.k) R S8 ⟨rfl,rfl,rfl,rfl,rfl,rfl⟩ fun U h9 as9 n9 S9 p9 du=>?_
 rw [show (zH.map fun j=>as9.getD j 0)=lT f0 f1 f2 y a by obtain ⟨t,rfl⟩:=p9; rfl] at S9 du
 apply bc;intro ng
 cases v <;> try exact y8.elim
 apply ng;clear ng
 refine gv R.u y8 S9 dv du fun cc s' n' yc S10=>?_
 rw [yc.2] at S10
 refine aa (show cc=nd.k.run from AV.bool.inj (Fl.rt.inj yc.1)) ?_
 have S11:SR w (qQ x c Z e) (OR G) G env h9 bX (lT f0 f1 f2 y a):=S10.re (s':=bX) zH EF ⟨rfl,rfl,rfl,rfl,rfl⟩
 induction hk:nd.k.run with
 | false=>rw [hk] at q; exact q _ _ S11
 | true=>rw [hk] at q; exact DX HH esc R S11 q
theorem Ey {g:Gr} (HH:∀{vs ls},H2 w (cZ vs ls) (OR G) fX 40) (esc:env.scope=bp w.params 892) (R:Room A (12 + 40)) (kg:bf g G) (I:At G a (.pl (Z.map ak))) (It:All2 (fun V nd=>∃x,V = .ref x/\bQ g [f0,f1,f2] x nd/\nd.ok) (Z.map ak) nds) (hz:Z.length<=1000)
  (S:SR w (qQ x c Z e) (OR G) G env h bX (lT f0 f1 f2 y a)) {whole:Sem Value} {Q:Bool->Shared->Prop}
  (q:∀h' n',SR w (qQ x c Z e) (OR G) G env h' bX (lT f0 f1 f2 y a)->Q (decide (e < Z.length) && ((zg nds).getD e false && decide ((e:Int) - bu x c Z.length < 4))) ⟨h',gs,dr,n',os⟩) :
  wpAny (model pr w) A (isTrue (F2 w.params) env whole) Q E ⟨h,gs,dr,n,os⟩:=by
 refine isTrue_and (rR HH esc (EX w.params) R S (fun zw=>rfl) ⟨⟨rfl,hz⟩,fun k b h' as' n' d S' pp=>?_,fun k b h' as' n' d S' pp=>?_⟩)
 ·refine aa (Eq.symm (AV.bool.inj (Fl.rt.inj (show Fl.rt (.bool true)=Fl.rt (.bool b) from d)))) ?_
  have S':=S.same S' pp rfl▸S'
  have hlt:e < Z.length:=Int.ofNat_lt.mp k
  rw [decide_eq_true hlt] at q
  exact Gs HH esc R kg I It hz hlt S' q
 ·refine aa (Eq.symm (AV.bool.inj (Fl.rt.inj (show Fl.rt (.bool false)=Fl.rt (.bool b) from d)))) ?_
  have S':=S.same S' pp rfl▸S'
  rw [decide_eq_false (show ¬e < Z.length from fun z=>k (Int.ofNat_lt.mpr z))] at q
  exact q _ _ S'
theorem Cc (HH:∀{vs ls},H2 w (cZ vs ls) (OR G) fX 40) (esc:env.scope=bp w.params 892) (R:Room A (12 + 40)) (S:SR w (qQ x c Z e) (OR G) G env h bX (lT f0 f1 f2 y a)) {Q:Flow->Shared->Prop}
  (q:∀h' n' z Ys Us,(∀b o,G b=some o->h'.get? b=some o)->At h'.get? y (.lst Ys)->IntsAre Ys [cb x c Z.length,c + 1]->G z=none->z≠y->At h'.get? z (.tup Us)->IntsAre Us [bu x c Z.length,(e:Int)]->Q (.ret (.ref z)) ⟨h',gs,dr,n',os⟩) :
  wpAny (model pr w) A (execs ((al w.params 892).drop 3) env) Q E ⟨h,gs,dr,n,os⟩:=by
 refine uO (ρ':=qQ x c Z e) HH esc (xo w.params) R S ⟨rfl,rfl,rfl,rfl⟩ fun V h6 as6 n6 S6 p6 dv=>?_
 apply bc;intro ng
 obtain ⟨t,rfl⟩:=p6
 obtain ⟨⟨Us,u1,u3⟩,ow⟩:=S6.ob 1 _ _ rfl rfl
 obtain ⟨⟨Ys,v1,v2⟩,ow2⟩:=S6.ob 0 _ y rfl rfl
 rw [cA dv rfl] at ng
 exact ng (q h6 n6 _ Ys Us S6.kp v2 (dQ (es:=[.v 0,.v 1]) v1) (ow rfl).2 (fun e=>absurd (S6.nd 0 1 _ _ y rfl rfl rfl rfl rfl (congrArg some e)) (by decide)) u3 (dQ (es:=[.v 2,.v 3]) u1))
end
theorem pK {l:List Bool} {k e D m:Nat} {d:Int} (hm:l.length=m) (hd:d=D) (ke:k + e=D + 4) (h:(decide (e < m) && (l.getD e false && decide ((e:Int) - d < 4)))=false):fN l k e=e:=by
 induction k using Nat.casesOn with
 | zero=>rfl
 | succ k =>
  refine if_neg fun z=>?_
  have hl:e < m:=hm▸Nat.lt_of_not_le fun q=>by rw [List.getD_eq_getElem?_getD,List.getElem?_eq_none q] at z; exact bH z
  rw [z,decide_eq_true hl,decide_eq_true (show (e:Int) - d < 4 by omega)] at h
  exact bH h.symm
theorem vn {l:List Bool} {k e D m:Nat} {d:Int} (hd:d=D) (ke:k + e=D + 4) (h:(decide (e < m) && (l.getD e false && decide ((e:Int) - d < 4)))=true):∃k',k=k' + 1/\fN l k e=fN l k' (e + 1):=by
 have h2:=ag (au h); have h3:=of_decide_eq_true (au (au h))
 exact ⟨k - 1,by omega,by refine aa (show k=(k - 1) + 1 by omega) ?_; exact if_pos h2⟩
def MY (w:World) (G:Gr) (x c:Int) (Z:List Int) (nds:List Nd) (f0 f1 f2 y a:Addr) (env:Env) (gs:Array GenState) (dr:Drawn) (os:OsState) (k:Nat) (st:Shared):Prop:=∃(e:Nat) (h3:Heap) (n:Nat),k + e=(bu x c Z.length).toNat + 4/\fN (zg nds) k e=fN (zg nds) 4 (bu x c Z.length).toNat/\st=⟨h3,gs,dr,n,os⟩/\
  SR w (qQ x c Z e) (OR G) G env h3 bX (lT f0 f1 f2 y a)
theorem wu {y a:Addr} {Vs:List Value} {x c:Int} {Z:List Int} {nds:List Nd} (B:gZ w (G1 h y)) (L:At h.get? y (.lst Vs)) (hi:IntsAre Vs [x,c]) (I:At h.get? a (.pl (Z.map ak))) (hay:a≠y) (hz:0 < Z.length/\Z.length<=100) (hc:0<=c/\c<=990000)
  (hF:F.length=3) (kg:bf g (G1 h y)) (It:All2 (fun V nd=>∃x,V = .ref x/\bQ g F x nd/\nd.ok) (Z.map ak) nds) (R:Room A 60) {Q:Value->Shared->Prop} {E:Value->Shared->Prop}
  (q:∀h' n' z Vs' Us,(∀b o,b≠y->h.get? b=some o->h'.get? b=some o)->At h'.get? y (.lst Vs')->IntsAre Vs' [cb x c Z.length,c + 1]->h.get? z=none->At h'.get? z (.tup Us)->IntsAre Us [bu x c Z.length,(fN (nds.map fun nd=>nd.k.run) 4 (bu x c Z.length).toNat:Nat)]->Q (.ref z) ⟨h',gs,dr,n',os⟩) :
  wpAny (model pr w) A (call (.ref 892) [.ref y,.ref a]) Q E ⟨h,gs,dr,n,os⟩:=by
 apply bc;intro ng
 apply bc;intro ng
 obtain ⟨t0,t1,eV⟩:=jo hi
 apply ng;clear ng
 have hln:(zg nds).length=Z.length:=(List.length_map _).trans (It.len.symm.trans (List.length_map _))
 match F,hF with
 | [f0,f1,f2],_ =>
 have Ia:At (G1 h y) a (.pl (Z.map ak)):=I.le fun o e=>(gT hay).trans e
 have HH:∀{vs ls},H2 w (cZ vs ls) (OR (G1 h y)) fX 40:=⟨B,by decide,d8 rfl rfl⟩
 have C0:Co w (cZ [x,c] (CA Z [] [] [] [])) (OR (G1 h y)) (G1 h y) h lS [] (lT f0 f1 f2 y a) :=
  Co.one B (fun zw zw e=>e) rfl (.cons ⟨trivial,nofun⟩ (.cons ⟨trivial,nofun⟩ (.cons ⟨trivial,nofun⟩ (.cons ⟨⟨_,.cons ⟨t0,rfl⟩ (.cons ⟨t1,rfl⟩ .nil),eV▸L⟩,fun zw=>rfl⟩ (.cons ⟨Ia,nofun⟩ (.cons ⟨trivial,nofun⟩ (.cons ⟨trivial,nofun⟩ (.cons ⟨trivial,nofun⟩ (.cons ⟨trivial,nofun⟩ .nil)))))))))
 have b0:=bC (a:=x) (c:=c) (m:=Z.length) (by omega)
 have hd:bu x c Z.length=((bu x c Z.length).toNat:Nat):=by omega
 refine ng (go (R.le (m:=52 + 1) (by decide)) (DD w.params) (wc w.params) C0 (.cons ⟨y,rfl,rfl⟩ (.cons ⟨a,rfl,rfl⟩ .nil)) fun A' env h1 n1 as1 R1 esc p1 S1 E'=>?_); clear ng
 refine dh fun Q' E' kq zw=>?_
 replace esc:env.scope=bp w.params 892:=esc
 replace R1:Room A' (12 + 40):=R1
 rw [Fq w.params,p1.eq S1.sz] at S1
 refine aa (show (aZ w.params 892).body=_ from vG w.params) ?_
 refine aH (z8 (ρ':=qQ x c Z (bu x c Z.length).toNat) HH esc (vO w.params) R1 S1 rfl (as2:=lT f0 f1 f2 y a) rfl ⟨⟨rfl,show Z.length<=1000 by omega⟩,show (0:Int) < Z.length by omega,show (Z.length:Int) < 1000000 by omega,hc.1,show c < 1000000 by omega,rfl,rfl,rfl,rfl,hd⟩ fun h2 n2 S2=>?_)
 refine wpAny_execs_cons (wpAny_While (codeAny_whileLoop (MY w (G1 h y) x c Z nds f0 f1 f2 y a env gs dr os) (fun k st i=>dh fun Q2 zw kq2 zw=>?_) 4 ⟨_,h2,n2,Nat.add_comm _ _,rfl,rfl,S2⟩))
 apply bc;intro ng
 obtain ⟨e,h3,n3,ke,em,rfl,S⟩:=i
 apply ng;clear ng
 refine Ey HH esc R1 kg Ia It (by omega) S fun h4 n4 S4=>kq2 _ _ ?_
 induction hb:(decide (e < Z.length) && ((zg nds).getD e false && decide ((e:Int) - bu x c Z.length < 4))) with
 | true =>
  let ⟨k',ek,er⟩:=vn hd ke hb
  refine aa (if_pos rfl) ?_
  exact z8 (ρ':=qQ x c Z (e + 1)) HH esc (xz w.params) R1 S4 rfl (as2:=lT f0 f1 f2 y a) rfl ⟨rfl,rfl,rfl,rfl,rfl⟩ fun h5 n5 S5=>⟨k',ek▸Nat.lt_succ_self _,e + 1,h5,n5,by omega,er.symm.trans em,rfl,S5⟩
 | false =>
  refine aa (if_neg Bool.false_ne_true) ?_
  exact wpAny_execs_nil (Cc HH esc R1 S4 fun h6 n6 z Ys Us k6 v2 iv gz zy u3 iu=>kq _ _ (q h6 n6 z Ys Us (zp k6) v2 iv ((gT zy).symm.trans gz) u3 (((pK hln hd ke hb).symm.trans em)▸iu)))
end
noncomputable def Cx (i:Nat):List AO:=[.dead,.dead,.dead,.dead,.lit 3 i,.rf 1,.dead,.dead,.dead]
noncomputable def fT (i:Nat):St:=⟨[(S' "found",.loc 5)],[],Cx i,[]⟩
noncomputable def dy (P:Params):Stmt:=(al P 899).getD 1 (.Pass default)
noncomputable def uQ (P:Params):Expr:=ch ((bg (dy P)).getD 0 (.Pass default))
noncomputable def Nk.fl:Nk->List Nat | .dsc0=>[] | .dsc1=>[3] | .dsc2=>[3,5] | k=>[k.last]
noncomputable def Nk.isD:Nk->Bool | .dsc0 | .dsc1 | .dsc2=>true | _=>false
noncomputable def CM (k:Nk) (i:Nat):St:=⟨[(S' "node",.loc (9 + k.last)),(S' "found",.loc 5)],[],Cx i++(k.T 9 11).map .fz,[]⟩
noncomputable def Gm (k:Nk) (i:Nat):St:=⟨[(S' "node",.loc (9 + k.last)),(S' "found",.loc 5)],[],if k.isD then Cx i++(k.T 9 11).map .fz else Cx i++(k.T 9 11).map .fz++[.pl [.loc (9 + k.last)]],[]⟩
noncomputable def Mr (k:Nk):Nat:=if k.isD then 17 else 9 + (k.T 9 11).length
theorem Fk (P:Params) (k:Nk) (i:Nat):bZ (bp P 899) (bj (cy (dy P))) (.loc (9 + k.last)) ⟨(fT i).ls,[],Cx i++(k.T 9 11).map .fz,[]⟩ (fun s=>.leaf .nx s) = .leaf .nx (CM k i):=by induction k using Nk.casesOn <;> kernel_rfl
theorem Ec (P:Params) (k:Nk) (i:Nat):bB P aA 12 (bp P 899) (bq (uQ P)) (CM k i) = .leaf (.rt (.loc (Mr k))) (Gm k i):=by induction k using Nk.casesOn <;> kernel_rfl
theorem DP (k:Nk) (i:Nat):(Gm k i).at (Mr k)=some (.lst (k.fl.map fun j=>.loc (9 + j))):=by induction k using Nk.casesOn <;> rfl
theorem Hq (P:Params) (k:Nk) (i:Nat):bB P aA 12 (bp P 899) (ca (ax (uQ P))) (CM k i) = .leaf (.rt (.loc 5)) (CM k i):=by induction k using Nk.casesOn <;> kernel_rfl
theorem Fa (k:Nk) (i:Nat):aN [0,1,2,3,4,5,6,7,8] ⟨(Gm k i).ls,[],(Gm k i).ob.set 5 (.rf 2),[]⟩ (fT i)=some [.nat i i,.rf 2 1]:=by induction k using Nk.casesOn <;> kernel_rfl
theorem vT (P:Params):al P 899=(al P 899).take 1++(.For (.Name (bj (cy (dy P))) (aS (cy (dy P)))) (aR (dy P)) (bg (dy P)) [] (dy P).pos::(al P 899).drop 2):=by kernel_rfl
theorem II (P:Params):bg (dy P) = [.Expr (.Call (.Attribute (ca (ax (uQ P))) (S' "extend") (d6 (ax (uQ P)))) [bq (uQ P)] [] (cg (uQ P))) (rh ((bg (dy P)).getD 0 (.Pass default)))]:=by kernel_rfl
theorem rQ (P:Params):((d6 (ax (uQ P))).endLine == (cg (uQ P)).line)=true/\cu (ca (ax (uQ P)))=false/\aK (bq (uQ P))=false/\cp (aR (dy P))=false:=⟨by kernel_rfl,by kernel_rfl,by kernel_rfl,by kernel_rfl⟩
section
open AutoSeq1 (wpAny_loadPart')
theorem qY (l:Addr) (items:Array Value) (n:Nat) (b:Addr) (items2:Array Value) (n2:Nat) (dd:Option Addr) (sl:Array (Option Value)) (hc0:¬(!items.isEmpty && Builtin.List.listTooLong (items.size + items2.size))=true) (hc1:items.size<=sizeLine) (hs2:items.size + items2.size<=sizeLine + 1) :
  Meets (Builtin.«list.extend» ⟨[.ref l,.ref b],[]⟩) (fun zw R s=>s.heap.get? l=some { cls:=.type "list",dict:=none,data:=.seq items n,slots:=#[] }/\s.heap.get? b=some { cls:=.type "list",dict:=dd,data:=.seq items2 n2,slots:=sl }/\R (.ok (.ret Value.none)) { s with heap:=s.heap.update l (Obj.mapSeq fun x=>x++items2),toks:=s.toks }) :=
 .of_wp fun prog w A R s h=>by
  obtain ⟨hp,g,d,tk,os⟩:=s; obtain ⟨hl,hb,h⟩:=h
  have hz':(items++items2).size<=sizeLine + 1:=by refine aa Array.size_append ?_; exact hs2
  wp_walk using (wpAny_updateSeq hl rfl (hz:=hc1) (_hz':=hz')),wpAny_loadPart' hl,wpAny_loadPart' hb; exact ⟨_,rfl,h⟩
section
variable {w:World} {A:Around} {gs:Array GenState} {dr:Drawn} {os:OsState} {h:Heap} {n:Nat} {g:Gr} {F:List Addr} {E:Value->Shared->Prop} {s:Shared} {l:Addr} {pos:Pos}
theorem Jy {x:Sem Value} {Q:Value->Shared->Prop}
  (h:wpAny (model pr w) A x (fun v s₁=>∃b items Us n,v = .ref b/\IsL s₁.heap l items n/\At s₁.heap.get? b (.lst Us)/\items.size + Us.length<=1000/\Q .none { s₁ with heap:=s₁.heap.update l (Obj.mapSeq fun xs=>xs++Us.toArray) }) E s) :
  wpAny (model pr w) A (callWith pos (.builtin "list.extend") [.ref l] [(false,x)] []) Q E s :=
 seqMethod1_meets F.slot_list_extend F.entry_list_extend (wpAny_mono h (fun v s₁ h₁=>by
  apply bc;intro ng
  obtain ⟨b,items,Us,n,rfl,hl,⟨⟨cls,dd,data,sl⟩,hb,hc,n2,hd⟩,hz,hq⟩:=h₁
  simp only at hc hd
  subst hc hd
  apply ng;clear ng
  have hz2:items.size + Us.toArray.size<=1000:=by simpa using hz
  exact ⟨⟨_,hl,rfl⟩,F.args_list_extend_2 _ _,_,qY l items n b Us.toArray n2 dd sl (extend_door (by refine aa sizeLine_eq ?_; (first | lia | omega))) (by refine aa sizeLine_eq ?_; (first | lia | omega)) (by refine aa sizeLine_eq ?_; (first | lia | omega)),hl,hb,hq⟩) fun zw zw e=>e)
def Cu (g:Gr) (F:List Addr) (V:Value) (p:Nd×List Int):Prop:=∃x as2,V = .ref x/\as2[p.1.k.last]? = some x/\All2 (fun x u=>aO (dm p.1.a) (F++as2) g x u) as2 (p.1.k.T 3 0)/\p.2=p.1.k.fl.map fun i=>((as2.getD i 0:Nat):Int)
theorem Fh {Vs:List Value} {nds:List Nd} (It:All2 (fun V nd=>∃x,V = .ref x/\bQ g F x nd/\nd.ok) Vs nds):∃ps:List (Nd×List Int),ps.map (·.1)=nds/\All2 (Cu g F) Vs ps:=by
 induction It with
 | nil=>exact ⟨[],rfl,.nil⟩
 | @cons V nd _ _ hh _ ih =>
  apply bc;intro ng
  obtain ⟨x,rfl,⟨as2,e1,e2⟩,ok⟩:=hh
  obtain ⟨ps,rfl,z⟩:=ih
  apply ng;clear ng
  exact ⟨(nd,nd.k.fl.map fun i=>((as2.getD i 0:Nat):Int))::ps,rfl,.cons ⟨x,as2,rfl,e1,e2,rfl⟩ z⟩
theorem EC (P:Params):dL P 899=some (aZ P 899):=by kernel_rfl
theorem yq (P:Params):aQ (aZ P 899) [.loc 3]=some [(S' "items",.loc 3)]:=by kernel_rfl
noncomputable def ql:List AO:=[.dead,.dead,.dead,.dead,.dead,.dead,.dead]
theorem FJ (P:Params):(⟨[(S' "items",AV.loc 3)].reverse.filter (fun x=>decide ((aZ P 899).scope.names.lookup x.1=some .local)),(ae (aZ P 899).scope.names).zip ((List.range (ae (aZ P 899).scope.names).length).map (ql.length + ·)),ql++(ae (aZ P 899).scope.names).map (fun n=>.cell ([(S' "items",AV.loc 3)].reverse.lookup n)),[]⟩:St)=⟨[(S' "items",.loc 3)],[],ql,[]⟩:=by kernel_rfl
noncomputable def q6 (f:AO):St:=⟨[(S' "found",.loc 7),(S' "items",.loc 3)],[],ql++[f],[]⟩
theorem DJ (P:Params):(cD P aA 12 (bp P 899) ((al P 899).take 1) ⟨[(S' "items",.loc 3)],[],ql,[]⟩).vc [0,1,2,3,4,5,6,7] .nx (q6 (.pl [])) = .ok []:=by kernel_rfl
theorem D7 (P:Params):(bB P aA 12 (bp P 899) (aR (dy P)) (q6 (.rf 1))).vc [0,1,2,3,4,5,6,7] (.rt (.loc 3)) (q6 (.rf 1)) = .ok [.rf 1 1]:=by kernel_rfl
theorem DF (P:Params) (i:Nat):(cD P aA 12 (bp P 899) ((al P 899).drop 2) ⟨(fT i).ls,[],(fT i).ob.set 4 .dead,[]⟩).vc [5] (.rt (.loc 0)) ⟨[],[],[.rf 1],[]⟩ = .ok [.rf 1 1]:=by kernel_rfl
theorem Ej:aN [0,1,2,3,8,7,4,5,6] ⟨(q6 (.rf 1)).ls,[],(q6 (.rf 1)).ob++[.lit 3 0],[]⟩ (fT 0)=some [.nat 0 0,.rf 1 1]:=by kernel_rfl
theorem E3 (i:Nat):aN [0,1,2,3,4,5,6,7,8] (fT i) (fT i)=some [.nat i i,.rf 1 1]:=by kernel_rfl
noncomputable def Mj (a b:List Int):Nat->List Int | 1=>a | 2=>b | _=>[]
theorem BA (k:Nk):k.last < (k.T 3 0).length/\∀i∈k.fl,i < (k.T 3 0).length:=by induction k using Nk.casesOn <;> decide
theorem ou {ρ:Rho} {as nas:List Addr} (hp:∀(j:Nat) x,nas[j]? = some x->as[9 + j]? = some x):∀{ks:List Nat} {Us:List Value},(∀j∈ks,j < nas.length)->All2 (Dn ρ as) (ks.map fun j=>.loc (9 + j)) Us->Us=(ks.map fun i=>((nas.getD i 0:Nat):Int)).map ak
 | [],_,_,.nil=>rfl
 | k::ks,_,hk,.cons d x=>by
  obtain ⟨b,e,rfl⟩:=d
  have hl:=hk k (.head _)
  have:=hp k nas[k] (List.getElem?_eq_getElem hl)
  rw [this] at e; cases e
  rw [ou hp (fun j m=>hk j (.tail _ m)) x]
  simp [ak,List.getD,hl]
noncomputable def Fd (f0 f1 f2 a it z:Addr):List Addr:=[f0,f1,f2,a,it,z,a,a,a]
noncomputable def ui (zs:List Int):Rho:=cZ [] (Mj zs [])
noncomputable def K2 (l zs z2:List Int):Rho:=cZ ([0,0,0,0,0,0,0,0,0,0,0]++l) (Mj zs z2)
theorem E8 (l zs z2:List Int) (j:Nat):(K2 l zs z2).v (11 + j)=l.getD j 0:=by
 show ([0,0,0,0,0,0,0,0,0,0,0]++l).getD (11 + j) 0=_
 refine aa (List.getD_eq_getElem?_getD) (aa (List.getElem?_append_right (Nat.le_add_right 11 j)) (aa (List.getD_eq_getElem?_getD) ?_))
 exact congrArg (fun i=>(l[i]?).getD 0) (Nat.add_sub_cancel_left 11 j)
theorem tz (k:Nk) (i:Nat):(CM k i).ob[5]? = some (.rf 1)/\(Gm k i).ob[5]? = some (.rf 1):=by induction k using Nk.casesOn <;> exact ⟨rfl,rfl⟩
theorem w9 {O:Opq} {G:Gr} {env:Env} {zs:List Int} {p:Nd×List Int} {i:Nat} {f0 f1 f2 a it z:Addr} {V:Value} (HH:∀{ρ:Rho},H2 w ρ O aA 2) (esc:env.scope=bp w.params 899) (R:Room A (12 + 2)) (kg:bf g O.g) (hV:Cu g [f0,f1,f2] V p) (hz:(zs++p.2).length<=900)
  (S:SR w (ui zs) O G env h (fT (i + 1)) (Fd f0 f1 f2 a it z)) {Q:Flow->Shared->Prop} {E1 E2:Value->Shared->Prop} (q:∀h' n',SR w (ui (zs++p.2)) O G env h' (fT (i + 1)) (Fd f0 f1 f2 a it z)->Q .next ⟨h',gs,dr,n',os⟩) :
  wpAny (model pr w) A (storeName env (bj (cy (dy w.params))) V) (fun zw s₂=>wpAny (model pr w) A (execs (bg (dy w.params)) env) Q E1 s₂) E2 ⟨h,gs,dr,n,os⟩:=by
 apply bc;intro ng
 obtain ⟨x,nas,rfl,na,nx,ez⟩:=hV
 obtain ⟨q1,q2,q3,q4⟩:=rQ w.params
 have S8:=S.re (s':=fT (i + 1)) (ρ':=K2 p.1.a zs (zs++p.2)) [0,1,2,3,4,5,6,7,8] (E3 _) ⟨rfl,rfl⟩
 have nx2:=mf nx (ρ:=K2 p.1.a zs (zs++p.2)) (as:=Fd f0 f1 f2 a it z) rfl rfl (E8 _ _ _)
 have S9:=S8.join (us:=p.1.k.T 9 11) (nx2.mono fun zw zw z=>z.keep .refl (kg _))
 have l9:∀(r:List Addr) (i:Nat),(Fd f0 f1 f2 a it z++r)[9 + i]? = r[i]?:=fun r i=>(List.getElem?_append_right (Nat.le_add_right 9 i)).trans (congrArg (r[·]?) (Nat.add_sub_cancel_left 9 i))
 refine ng (aW (post:=fun f s=>s=CM p.1.k (i + 1)) (v:=.loc (9 + p.1.k.last)) (k:=fun s=>.leaf .nx s) (by
  refine aa esc ?_
  show Tr.ok _ _ (bZ _ _ _ ⟨(fT (i + 1)).ls,[],Cx (i + 1)++_,[]⟩ _)
  rw [Fk]; rfl) S9 ⟨x,(l9 _ _).trans na,rfl⟩ fun s2 h9 n9 y9 S10=>?_); clear ng
 rw [show s2=_ from y9] at S10
 rw [II]
 refine wpAny_execs_cons (wpAny_Expr_any (Ip q1 q2 q3 PySem.F.slot_list_extend PySem.F.type_list_extend (tO HH esc (Hq w.params p.1.k (i + 1)) R S10 fun V h11 as11 n11 S11 p11 dv=>?_)) (by unfold interactive; rw [S10.ek]; rfl) rfl)
 have ef:as11[5]? = some z:=p11.get rfl
 have pf:At h11.get? z (.pl (zs.map ak)):=(S11.ob 5 (.rf 1) z (tz _ _).1 ef).1
 refine ⟨z,_,cA dv ef,(let ⟨o,e1,n1,e2⟩:=pf; ⟨n1,e2▸e1⟩),Jy (tO HH esc (Ec w.params p.1.k (i + 1)) R S11 fun v h12 as12 n12 S12 p12 dv=>?_)⟩
 have ef12:=p12.get ef
 apply bc;intro ng
 obtain ⟨b,eb,ev⟩:=dv
 obtain ⟨b',eb',Us,u1,u2⟩:=S12.at (DP p.1.k (i + 1))
 rw [<- show b=b' from aF (eb.symm.trans eb')] at u2
 have ub:Us=p.2.map ak:=by
  refine aa ez ?_
  have ln:nas.length=(p.1.k.T 3 0).length:=nx.len
  exact ou (as:=as12) (fun j y ey=>(p11.trans p12).get ((l9 _ _).trans ey)) (fun j m=>by refine aa ln ?_; exact (BA p.1.k).2 j m) u1
 rw [ub] at u2
 obtain ⟨of,il,nf,rfl⟩:At h12.get? z (.pl (zs.map ak)):=(S12.ob 5 (.rf 1) z (tz _ _).2 ef12).1
 have il:IsL h12 z (zs.map ak).toArray nf:=il
 have S13:=S12.obj (j:=5) (o:=.rf 1) (o':=.rf 2) (tz _ _).2 rfl ef12 (Heap.SameBut.update h12 z (Obj.mapSeq fun xs=>xs++(p.2.map ak).toArray)) ⟨_,il.update _,_,by
  show (_:Obj) = { cls:=.type "list",data:=.seq (List.map ak (zs++p.2)).toArray _ }
  rw [List.map_append,<- List.append_toArray]⟩
 have S14:=S13.re (s':=fT (i + 1)) (ρ':=ui (zs++p.2)) [0,1,2,3,4,5,6,7,8] (Fa p.1.k (i + 1)) ⟨rfl,rfl⟩
 obtain ⟨t,rfl⟩:=p11.trans p12
 refine ng ⟨b,_,_,nf,ev,il,u2,?_,wpAny_execs_nil (q _ _ S14)⟩
 rw [List.size_toArray,List.length_map,List.length_map,<- List.length_append]; exact Nat.le_trans hz (by decide)
noncomputable def sK (ps:List (Nd×List Int)) (i:Nat):List Int:=(ps.take i).flatMap (·.2)
theorem zQ {ps:List (Nd×List Int)} {i:Nat} {p:Nd×List Int} (e:ps[i]? = some p):sK ps (i + 1)=sK ps i++p.2:=by unfold sK; refine aa List.take_add_one (aa e (aa List.flatMap_append ?_)); exact congrArg (_++·) (List.append_nil _)
theorem A0 (ps:List (Nd×List Int)) (i:Nat):(sK ps i).length<=(ps.flatMap (·.2)).length:=by
 have e:ps.flatMap (·.2)=sK ps i++(ps.drop i).flatMap (·.2):=by unfold sK; rw [<- List.flatMap_append,List.take_append_drop]
 refine aa e (aa List.length_append ?_); exact Nat.le_add_right _ _
theorem sV (W:Wd w h) {a:Addr} {Z:List Int} {ps:List (Nd×List Int)} (I:At h.get? a (.pl (Z.map ak))) (hF:F.length=3) (kg:bf g h.get?) (It:All2 (Cu g F) (Z.map ak) ps) (hz:(ps.flatMap (·.2)).length<=900) (R:Room A 60) {Q:Value->Shared->Prop} {E:Value->Shared->Prop}
  (q:∀h' n' z,h.StaysIn h'->h.get? z=none->At h'.get? z (.pl ((ps.flatMap (·.2)).map ak))->Q (.ref z) ⟨h',gs,dr,n',os⟩):wpAny (model pr w) A (call (.ref 899) [.ref a]) Q E ⟨h,gs,dr,n,os⟩:=by
 match F,hF with
 | [f0,f1,f2],_ =>
 have HH:∀{ρ:Rho},H2 w ρ (OW h) aA 2:=H2.no (bf.hb W)
 have C0:Co w (ui []) (OW h) h.get? h ql [] [f0,f1,f2,a,a,a,a]:=Co.all W (fun zw zw e=>e) (.cons ⟨trivial,rfl⟩ (.cons ⟨trivial,rfl⟩ (.cons ⟨trivial,rfl⟩ (.cons ⟨trivial,rfl⟩ (.cons ⟨trivial,rfl⟩ (.cons ⟨trivial,rfl⟩ (.cons ⟨trivial,rfl⟩ .nil)))))))
 refine go (R.le (m:=20 + 1) (by decide)) (EC w.params) (yq w.params) C0 (.cons ⟨a,rfl,rfl⟩ .nil) fun A' env h1 n1 as1 R1 esc p1 S1 E'=>?_
 refine dh fun Q' E' kq zw=>?_
 replace esc:env.scope=bp w.params 899:=esc
 replace R1:Room A' (12 + 2):=R1.le (by decide)
 rw [FJ w.params,p1.eq S1.sz] at S1
 refine aa (show (aZ w.params 899).body=_ from vT w.params) ?_
 refine aH (iM (ρ':=ui []) HH esc (DJ w.params) R1 S1 trivial fun h2 as2 n2 S2 p2=>?_)
 apply bc;intro ng
 obtain ⟨t,rfl⟩:=p2
 obtain ⟨b,eb,⟨Us,u1,u2⟩,-⟩:=S2.get (i:=7) rfl
 rw [u1.n] at u2
 have S3:SR w (ui []) (OW h) h.get? env h2 (q6 (.rf 1)) [f0,f1,f2,a,a,a,a,t.getD 0 0]:=S2.obj (o':=.rf 1) rfl rfl eb ⟨rfl,fun zw zw=>rfl⟩ u2
 refine ng (wpAny_execs_cons (wpAny_For (qN (ρ':=ui []) HH esc (D7 w.params) R1 S3 rfl (as2:=[f0,f1,f2,a,a,a,a,t.getD 0 0]) rfl rfl fun V h4 n4 S4 dv=>?_) (dH (rQ w.params).2.2.2))); clear ng
 refine aa (cA dv rfl) ?_
 have hl:h4.IsList a (Z.map ak).toArray:=At.pl (I.le fun o e=>S4.kp _ _ e)
 refine wpAny_pyIter_list (s:=⟨h4,gs,dr,n4,os⟩) hl ?_
 have S5:=S4.push { cls:=.type "list_iterator",data:=.fields #[.ref a,rawInt 0] } (ao:=.lit 3 0) ⟨a,rfl,_,Heap.get?_push_size _ rfl,rfl,rfl⟩
 have S6:SR w (ui (sK ps 0)) _ _ _ _ (fT 0) (Fd f0 f1 f2 a h4.objs.size (t.getD 0 0)):=S5.re (s':=fT 0) (ρ':=ui []) [0,1,2,3,8,7,4,5,6] Ej ⟨rfl,rfl⟩
 refine wy R1 (m:=4) (j:=3) (Vs:=Z.map ak) (At.pl I) rfl rfl (fun i=>ui (sK ps i)) fT (fun zw=>rfl) (fun i h7 n7 V hV S7 Q2 E1 E2 q2=>?_) (fun h7 n7 S7=>?_) S6
 ·apply bc;intro ng
  obtain ⟨p,hp,ha⟩:=It.get hV
  exact ng (w9 HH esc R1 kg ha (zQ hp▸Nat.le_trans (A0 ps _) hz) S7 fun h8 n8 S8=>q2 _ _ _ (.inl rfl) (zQ hp▸S8))
 ·have hlen:sK ps (Z.map ak).length=ps.flatMap (·.2):=by unfold sK; exact aa It.len (aa List.take_length rfl)
  refine uO (ρ':=ui (sK ps (Z.map ak).length)) HH esc (DF w.params _) R1 S7 rfl fun V h8 as8 n8 S8 p8 dv=>?_
  apply bc;intro ng
  obtain ⟨z,ez,eV⟩:=dv
  obtain ⟨u1,ow⟩:=S8.ob 0 _ z rfl ez
  rw [eV] at ng
  exact ng (kq _ _ (q h8 n8 z S8.kp (ow rfl).2 (hlen▸u1)))
end
end
section
open PySem PySem.W PyProof.Rows PySem.Calls PySem.SeqAt
inductive PT | int (n:Int) | tup (l:List PT)
def jh (g:Gr):Nat->PT->Value->Prop
 | 0,_,_=>False
 | _ + 1,.int n,V=>∃t,V = .int n t
 | d + 1,.tup l,V=>∃a Vs,V = .ref a/\At g a (.tup Vs)/\All2 (fun t U=>jh g d t U) l Vs
theorem jh.mono {g g':Gr} {d d':Nat} {t:PT} {V:Value} (h:d<=d') (k:∀a Us,At g a (.tup Us)->At g' a (.tup Us)) (x:jh g d t V):jh g' d' t V:=by
 induction d generalizing d' t V with
 | zero=>exact x.elim
 | succ d ih =>
  induction d' using Nat.casesOn with
  | zero=>exact absurd h (Nat.not_succ_le_zero d)
  | succ d' =>
   induction t using PT.casesOn with
   | int m=>exact x
   | tup l =>
    obtain ⟨a,Vs,e,z,y⟩:=x
    exact ⟨a,Vs,e,k _ _ z,y.mono fun zw zw q=>ih (Nat.le_of_succ_le_succ h) q⟩
theorem jh.eq {h:Heap} {gs:Array GenState} {dr:Drawn} {n:Nat} {os:OsState} {d:Nat} {t:PT} {V U:Value} {A:Around} (hu:A.units + d < cLine) (x:jh h.get? d t V) (y:jh h.get? d t U):EqAt A ⟨h,gs,dr,n,os⟩ V U true:=by
 induction d generalizing t V U A with
 | zero=>exact x.elim
 | succ d ih =>
  induction t using PT.casesOn with
  | int m =>
   apply bc;intro ng
   obtain ⟨t,rfl⟩:=x; obtain ⟨u,rfl⟩:=y
   apply ng;clear ng
   have z:=EqAt.int_int (A:=A) (s:=⟨h,gs,dr,n,os⟩) m t m u
   rw [beq_self_eq_true] at z; exact z
  | tup l =>
   apply bc;intro ng
   obtain ⟨a,Vs,rfl,z1,x⟩:=x; obtain ⟨b,Us,rfl,z2,y⟩:=y
   apply ng;clear ng
   by_cases hab:a=b
   ·subst hab; exact EqAt.same _
   ·have lx:=x.len; have ly:=y.len
    have e5:((List.range (min Vs.toArray.size Us.toArray.size)).all (fun zw=>true) && Vs.toArray.size == Us.toArray.size)=true:=by simp; (first | decide | lia | omega)
    have z:=RcAt.tuples (A:=A) (s:=⟨h,gs,dr,n,os⟩) (e:=fun zw=>true) (items:=Vs.toArray) (items2:=Us.toArray) z1 z2 (by (first | decide | lia | omega)) fun j h1 h2=>by
     have j1:j < Vs.length:=by simpa using h1
     have j2:j < Us.length:=by simpa using h2
     apply bc;intro ng
     obtain ⟨v,w1,w2⟩:=x.rget (List.getElem?_eq_getElem j1)
     obtain ⟨u,w3,w4⟩:=y.rget (List.getElem?_eq_getElem j2)
     apply ng;clear ng
     rw [w1] at w3; cases w3
     exact ih (A:=A.in1) (by show A.units + 1 + d < _; (first | decide | lia | omega)) w2 w4
    rw [e5] at z
    exact EqAt.of_refs hab z
noncomputable def FQ (g:AV->Option PT):List AV->Option (List PT)
 | []=>some []
 | v::r=>(g v).bind fun t=>(FQ g r).map (t :: ·)
noncomputable def EP (ρ:Rho) (f:Nat->Option AO):Nat->AV->Option PT
 | 0,_=>none
 | n + 1,v=>match v.i? with
  | some e=>some (.int (e.den ρ))
  | none=>((v.l?.bind f).bind AO.tup?).bind fun vs=>(FQ (EP ρ f n) vs).map .tup
theorem AS {ρ:Rho} {O:Opq} {h:Heap} {s:St} {as:List Addr} (T:Fm ρ O h s as) {n:Nat} {v:AV} {t:PT} {V:Value} (e:EP ρ s.at n v=some t) (d:Dn ρ as v V):jh h.get? n t V:=by
 induction n generalizing v t V with
 | zero=>exact ap e
 | succ n ih =>
  unfold EP at e
  induction ei:v.i? with
  | some ie =>
   rw [ei] at e
   cases e
   rw [cP ei] at d
   exact let ⟨t,e⟩:=d; ⟨t,e⟩
  | none =>
   rw [ei] at e
   apply bc;intro ng
   obtain ⟨vs,e1,e2⟩:=az e
   obtain ⟨l,e3,rfl⟩:=Option.map_eq_some_iff.mp e2
   obtain ⟨x,Vs,rfl,dv,z⟩:=bD T e1 d
   apply ng;clear ng
   refine ⟨x,Vs,rfl,z,?_⟩
   clear e e2 e1 z
   induction dv generalizing l with
   | nil=>cases e3; exact .nil
   | cons d1 _ ih2 =>
    apply bc;intro ng
    obtain ⟨t1,f1,f2⟩:=az e3
    obtain ⟨l1,f3,rfl⟩:=Option.map_eq_some_iff.mp f2
    apply ng;clear ng
    exact .cons (ih f1 d1) (ih2 _ f3)
noncomputable def Tr.tre (ρ:Rho) (n:Nat):Tr->Option PT | .leaf (.rt v) s=>EP ρ s.at n v | _=>none
theorem Cd {ρ:Rho} {n:Nat} {t:Tr} {p:PT} (e:t.tre ρ n=some p):∃v s,t = .leaf (.rt v) s/\EP ρ s.at n v=some p:=by
 induction t using Tr.casesOn with
 | leaf f s=>induction f with
  | rt v=>exact ⟨v,s,rfl,e⟩
  | _=>exact ap e
 | _=>exact ap e
noncomputable def L4 (P:Params) (ρ:Rho) (k:Nk):Option PT:=(sx P aA 40 545 [.loc (3 + k.last),.int (.c 1)] (bl++(k.T 3 0).map .fz)).tre ρ 6
theorem xW (P:Params) (ρ:Rho) (k:Nk) (h:k≠.pck):(L4 P ρ k).isSome=true:=by induction k using Nk.casesOn <;> first | exact absurd rfl h | kernel_rfl
noncomputable def Nd.tr (P:Params) (nd:Nd):PT:=(L4 P (dm nd.a) nd.k).getD (.tup [])
section
variable {w:World} {A:Around} {gs:Array GenState} {dr:Drawn} {os:OsState} {h:Heap} {n:Nat} {g:Gr} {F:List Addr}
theorem qw (W:Wd w h) (kg:bf g h.get?) (Fo:aU w g F) {x:Addr} {nd:Nd} (N:bQ g F x nd) (np:nd.k≠.pck) {t:Tok} (R:Room A 40) {Q:Value->Shared->Prop} {E:Value->Shared->Prop}
  (q:∀V h' n',h.StaysIn h'->jh h'.get? 6 (nd.tr w.params) V->Q V ⟨h',gs,dr,n',os⟩):wpAny (model pr w) A (call (.ref 545) [.ref x,.int 1 t]) Q E ⟨h,gs,dr,n,os⟩:=by
 apply bc;intro ng
 obtain ⟨as2,na,nx⟩:=N
 have hF:F.length=3:=by obtain ⟨_,_,_,rfl,_⟩:=id Fo; rfl
 have C0:Co w (dm nd.a) (OG w g) h.get? h (bl++(nd.k.T 3 0).map .fz) [] (F++as2):=by
  refine Co.all W kg ((gp Fo).app ?_)
  have key:∀{ys:List Addr} {us:List AO},All2 (fun x u=>aO (dm nd.a) (F++as2) g x u) ys us->All2 (fun a o=>aC (dm nd.a) (OG w g) (F++as2) h a o/\o.own=false) ys (us.map .fz):=by
   intro ys us x
   induction x with
   | nil=>exact .nil
   | cons p _ ih=>exact .cons ⟨p,rfl⟩ ih
  exact key nx
 obtain ⟨p,ep⟩:=Option.isSome_iff_exists.mp (xW w.params (dm nd.a) nd.k np)
 obtain ⟨v,s,e1,e2⟩:=Cd ep
 apply ng;clear ng
 have et:nd.tr w.params=p:=by unfold Nd.tr; refine aa ep ?_; rfl
 refine LG (r0:=0) ay.no e1 R C0 (.cons ⟨x,by rw [List.getElem?_append_right (by (first | decide | lia | omega)),hF,Nat.add_sub_cancel_left]; exact na,rfl⟩ (.cons ⟨t,rfl⟩ .nil)) fun v' V h' as' n' ev C p' dv=>?_
 apply bc;intro ng
 cases ev
 apply ng;clear ng
 refine q V h' n' C.kp ?_
 refine aa et ?_
 exact AS C.hat e2 dv
end
end
section
set_option backward.match.sparseCases false
section
variable {w:World} {A:Around} {env:Env} {Er:Value->Shared->Prop} {st:Shared}
theorem m4 {T:String} {f:Str} {fp pos:Pos} {e:Expr} {Q:Value->Shared->Prop} (hs:aK e=false)
  (q:wpAny (model pr w) A (eval (.Name f fp) env) (fun V s₁=>V = .type T/\wpAny (model pr w) A (eval e env) (fun U s₂=>wpAny (model pr w) A (call (.type T) [U]) Q Er s₂) Er s₁) Er st):wpAny (model pr w) A (eval (.Call (.Name f fp) [e] [] pos) env) Q Er st:=by
 refine Call_ (wpAny_mono q (fun V s₁ z=>?_) fun zw zw z=>z) (gC rfl)
 obtain ⟨rfl,z⟩:=z
 refine PyProof.Rows.callWith_type1 (e:=e) (rest:=[]) ?_ (aX hs) rfl
 exact PyProof.Rows.spliced_more (wpAny_mono z (fun U s₂ y=>PyProof.Rows.spliced_none y) fun zw zw y=>y) (aX hs)
theorem jv {a:Addr} {f:Str} {fp pos:Pos} {e:Expr} {es:List Expr} {Q:Value->Shared->Prop} (hk:keepIn (K w.params) (.ref a)=true) (hs:((e::es).all fun e=>!aK e)=true)
  (q:wpAny (model pr w) A (eval (.Name f fp) env) (fun V s₁=>V = .ref a/\wpAny (model pr w) A (spliced (backTo pos (starEach (e::es) env))) (fun vs s₂=>(K w.params).In s₂.heap/\wpAny (model pr w) A (call (.ref a) vs) Q Er s₂) Er s₁) Er st):wpAny (model pr w) A (eval (.Call (.Name f fp) (e::es) [] pos) env) Q Er st:=by
 refine Call_ (wpAny_mono q (fun V s₁ z=>?_) fun zw zw z=>z) (gC rfl)
 obtain ⟨rfl,z⟩:=z
 rw [List.all_cons,Bool.and_eq_true,Bool.not_eq_true'] at hs
 exact sQ (first:=[]) hk (aX hs.1) (ci hs.2).1 z
end
noncomputable def CP (P:Params):Expr:=ch ((al P 551).getD 0 (.Pass default))
noncomputable def hC (P:Params):Expr:=bq (CP P)
noncomputable def q8:Expr->Expr | .ListComp e _ _ _=>e | e=>e
noncomputable def CJ:Expr->Expr | .ListComp _ (g::_) _ _=>g.iter | e=>e
noncomputable def Cz:Expr->Expr | .ListComp _ (g::_) _ _=>g.target | e=>e
noncomputable def kJ:Expr->Scope | .ListComp _ _ s _=>s | _=>default
noncomputable def xu:Expr->Pos | .ListComp _ _ _ p=>p | e=>e.pos
theorem wF (P:Params):al P 551 = [.Return (some (.Call (.Name (bj (ax (CP P))) (aS (ax (CP P)))) [.ListComp (.Call (.Name (bj (ax (q8 (hC P)))) (aS (ax (q8 (hC P))))) [.Name (S' "node") (aS (bq (q8 (hC P)))),.Name (S' "depth") (aS (bq (.Call (.Constant .none 0 default) (match q8 (hC P) with | .Call _ (_::r) _ _=>r | _=>[]) [] default)))] [] (cg (q8 (hC P)))) [⟨.Name (S' "node") (aS (Cz (hC P))),CJ (hC P),[],0⟩] (kJ (hC P)) (xu (hC P))] [] (cg (CP P)))) (rh ((al P 551).getD 0 (.Pass default)))]:=by kernel_rfl
noncomputable def mW:List AO:=[.dead,.cell (some (.int (.c 1)))]
noncomputable def zm:St:=⟨[(S' "items",.loc 0)],[(S' "depth",1)],mW,[]⟩
theorem DM (P:Params):dL P 551=some (aZ P 551):=by kernel_rfl
theorem ve (P:Params):aQ (aZ P 551) [.loc 0,.int (.c 1)]=some [(S' "items",.loc 0),(S' "depth",.int (.c 1))]:=by kernel_rfl
theorem C1 (P:Params):(⟨[(S' "items",AV.loc 0),(S' "depth",.int (.c 1))].reverse.filter (fun x=>decide ((aZ P 551).scope.names.lookup x.1=some .local)),(ae (aZ P 551).scope.names).zip ((List.range (ae (aZ P 551).scope.names).length).map (([.dead]:List AO).length + ·)),[.dead]++(ae (aZ P 551).scope.names).map (fun n=>.cell ([(S' "items",AV.loc 0),(S' "depth",.int (.c 1))].reverse.lookup n)),[]⟩:St)=zm:=by kernel_rfl
theorem J1 (P:Params):cW (kJ (hC P)) (S' "node")=true/\cp (CJ (hC P))=false/\eK zm.cl (kJ (hC P)).names []=some [(S' "depth",1)]:=⟨by kernel_rfl,by kernel_rfl,by kernel_rfl⟩
theorem Km (P:Params):bB P aA 12 (bp P 551) (.Name (bj (ax (CP P))) (aS (ax (CP P)))) zm = .leaf (.rt (.glb (.type "tuple"))) zm:=by kernel_rfl
theorem Kl (P:Params):bB P aA 12 (bp P 551) (CJ (hC P)) zm = .leaf (.rt (.loc 0)) zm:=by kernel_rfl
theorem JF (P:Params) (ls:List (Str×AV)) (s:Str) (p:Pos):bB P aA 12 (bM (kJ (hC P)) (bp P 551)) (.Name (bj (ax (q8 (hC P)))) (aS (ax (q8 (hC P))))) ⟨ls,[(S' "depth",1)],mW,[]⟩ = .leaf (.rt (.glb (.ref 545))) ⟨ls,[(S' "depth",1)],mW,[]⟩:=by kernel_rfl
theorem Db (P:Params) (x:Addr) (ls:List (Str×AV)):bZ (bM (kJ (hC P)) (bp P 551)) (S' "node") (.glb (.ref x)) ⟨ls,[(S' "depth",1)],mW,[]⟩ (fun s=>.leaf .nx s) = .leaf .nx ⟨(S' "node",.glb (.ref x))::ls,[(S' "depth",1)],mW,[]⟩:=by kernel_rfl
noncomputable def Iu (P:Params):List Expr:=[.Name (S' "node") (aS (bq (q8 (hC P)))),.Name (S' "depth") (aS (bq (.Call (.Constant .none 0 default) (match q8 (hC P) with | .Call _ (_::r) _ _=>r | _=>[]) [] default)))]
theorem Jm (P:Params) (x:Addr) (ls:List (Str×AV)) (k:List AV->St->Tr):m7 (fJ P aA 12) (bM (kJ (hC P)) (bp P 551)) (Iu P) ⟨(S' "node",.glb (.ref x))::ls,[(S' "depth",1)],mW,[]⟩ k=k [.glb (.ref x),.int (.c 1)] ⟨(S' "node",.glb (.ref x))::ls,[(S' "depth",1)],mW,[]⟩:=by kernel_rfl
theorem AW (P:Params):keepIn (K P) (.ref 545)=true:=by kernel_rfl
end
section
variable {w:World} {A:Around} {gs:Array GenState} {dr:Drawn} {os:OsState} {h:Heap} {n:Nat} {g:Gr} {F:List Addr} {ρ:Rho} {O:Opq} {G:Gr} {env:Env} {hk:Hk} {n0 r0:Nat} {s:St} {as:List Addr}
theorem oy (H:H2 w ρ O hk r0) {e:Expr} {sc:Scope} {v:AV} {s':St} (hsc:env.scope=sc) (ev:bB w.params hk n0 sc e s = .leaf (.rt v) s') {Q:Value->Shared->Prop} {E:Value->Shared->Prop} (R:Room A (n0 + r0)) (S:SR w ρ O G env h s as)
  (q:∀V h' as' n',SR w ρ O G env h' s' as'->aM as as'->Dn ρ as' v V->Q V ⟨h',gs,dr,n',os⟩):wpAny (model pr w) A (eval e env) Q E ⟨h,gs,dr,n,os⟩:=by
 exact tO H hsc ev R S q
noncomputable def k2 (vs:List AV) (s:St):Tr:=match vs with | [v1,v2]=>.leaf (.rt v1) { s with ls:=(S' "",v2)::s.ls } | _=>.fail
theorem Mf {s s0:St} {a b:List (Str×AV)} (e:({ s with ls:=a }:St) = { s0 with ls:=b }):a=b/\(s.ls=s0.ls->s=s0):=by
 refine ⟨congrArg St.ls e,fun h=>?_⟩
 obtain ⟨l1,c1,o1,p1⟩:=s
 obtain ⟨l2,c2,o2,p2⟩:=s0
 have h:l1=l2:=h
 have h1:c1=c2:=congrArg St.cl e
 have h2:o1=o2:=congrArg St.ob e
 have h3:p1=p2:=congrArg St.pc e
 exact aa h (aa h1 (aa h2 (aa h3 rfl)))
theorem o4 {vs:List AV} {s s0:St} {u1 u2:AV} (y:(k2 vs s).ok ρ fun f s'=>f = .rt u1/\s' = { s0 with ls:=(S' "",u2)::s0.ls }):vs = [u1,u2]/\s=s0:=by
 induction vs using List.casesOn with
 | nil=>exact y.elim
 | cons v1 vs=>induction vs using List.casesOn with
  | nil=>exact y.elim
  | cons v2 vs=>induction vs using List.casesOn with
   | cons v3 vs=>exact y.elim
   | nil =>
    have e1:v1=u1:=Fl.rt.inj y.1
    have e2:=Mf y.2
    have e3:=List.cons.inj e2.1
    refine aa e1 (aa (show v2=u2 from congrArg Prod.snd e3.1) ?_)
    exact ⟨rfl,e2.2 e3.2⟩
theorem qP (W:Wd w h) (kg:bf g h.get?) (Fo:aU w g F) {a:Addr} {Vs:List Value} {nds:List Nd} {t:Tok} (I:At h.get? a (.lst Vs)) (It:All2 (fun V nd=>∃x,V = .ref x/\bQ g F x nd/\nd.ok) Vs nds) (np:∀nd∈nds,nd.k≠.pck) (hz:Vs.length<=1000) (R:Room A 60) {Q:Value->Shared->Prop} {E:Value->Shared->Prop}
  (q:∀V h' n',h.StaysIn h'->jh h'.get? 7 (.tup (nds.map (Nd.tr w.params))) V->Q V ⟨h',gs,dr,n',os⟩):wpAny (model pr w) A (call (.ref 551) [.ref a,.int 1 t]) Q E ⟨h,gs,dr,n,os⟩:=by
 have HH:∀{ρ:Rho},H2 w ρ (OW h) aA 2:=H2.no (bf.hb W)
 have C0:Co w (bv []) (OW h) h.get? h [.dead] [] [a]:=Co.all W (fun zw zw e=>e) (.cons ⟨trivial,rfl⟩ .nil)
 refine go (R.le (m:=54 + 1) (by (first | decide | lia | omega))) (DM w.params) (ve w.params) C0 (.cons ⟨a,rfl,rfl⟩ (.cons ⟨t,rfl⟩ .nil)) fun A' env h1 n1 as1 R1 esc p1 S1 E'=>?_
 have S1:SR w (bv []) (OW h) h.get? env h1 zm as1:=by refine aa (Eq.symm (C1 w.params)) ?_; exact S1
 have esc:env.scope=bp w.params 551:=esc
 have RR:Room A' (12 + 2):=R1.le (by (first | decide | lia | omega))
 show wpAny _ _ (execs (al w.params 551) env) _ _ _
 rw [wF]
 refine wpAny_execs_cons (wpAny_Return_some (m4 rfl (oy HH esc (Km w.params) RR S1 fun V h2 as2 n2 S2 p2 dv=>⟨dv,?_⟩)))
 obtain ⟨c1,c2,c3⟩:=J1 w.params
 obtain ⟨Res,r1,r2⟩:=rI (px:=aS (Cz (hC w.params))) (elt:=q8 (hC w.params)) (iter:=CJ (hC w.params)) (pos:=xu (hC w.params)) c1 c2 c3 S2.cc
 refine r2 (oy HH esc (Kl w.params) RR S2 fun V h3 as3 n3 S3 p3 dv=>?_)
 obtain ⟨a',ea,rfl⟩:=dv
 have:as3[0]? = some a:=p3.get (p2.get (p1.get rfl))
 rw [this] at ea; cases ea
 have hl:h3.IsList a Vs.toArray:=I.le fun o e=>S3.kp _ _ e
 refine wpAny_pyIter_list (s:=⟨h3,gs,dr,n3,os⟩) hl ?_
 have S4:=S3.stay (h':=h3.push { cls:=.type "list_iterator",data:=.fields #[.ref a,rawInt 0] }) fun zw zw e=>Heap.get?_push_of_some _ e
 have gi:h.get? h3.objs.size=none:=by
  induction qq:h.get? h3.objs.size with
  | none=>rfl
  | some x=>exact absurd (Heap.lt_size (S3.kp _ _ qq)) (Nat.lt_irrefl _)
 have off:jr [h3.objs.size] env.locals zm.ob as3:=fun b m=>by
  refine aa (List.mem_singleton.mp m) ?_
  obtain ⟨f,N,_⟩:=S3.lc
  exact ⟨Nat.ne_of_gt N.lt,fun i o e ow e'=>absurd ((S3.ob i o _ e e').1.lt ow) (Nat.lt_irrefl _)⟩
 obtain ⟨fL,⟨oL,es,ep,l2,l3,l4⟩,lk⟩:=S4.lc
 have nL:∀vs m,oL.data≠.seq vs m:=fun vs m e=>by rw [l3] at e; cases e
 refine zP (fx:=[]) (N:=Vs.length) (RR.le (m:=0) (by (first | decide | lia | omega))) c1 (fun x i e=>let ⟨b,z1,z2⟩:=r1 x i e; ⟨b,p3.get z1,z2⟩) S4 (Nxt.list I) ⟨_,Heap.get?_push_size _ rfl,rfl,rfl⟩ hz gi off
  (fun i G1 ρ s Us=>ρ=bv []/\s.cl = [(S' "depth",1)]/\s.ob=mW/\s.pc = []/\All2 (fun nd U=>jh (strip [env.locals] G1) 6 (nd.tr w.params) U) (nds.take i) Us) (fun G' le=>⟨rfl,rfl,rfl,rfl,by refine aa List.take_zero ?_; exact .nil⟩) (fun zw m=>nomatch m) ?_ ?_
 ·intro i G1 G' ρ s Us cenv h5 n5 as5 V ac hi hV z1 gg g1 fr z2 hL lac nia csc nel S5 _ T E1 E2 qT
  apply bc;intro ng
  obtain ⟨ls,cl,ob,pc⟩:=s
  obtain ⟨rfl,rfl,rfl,rfl,hT⟩:=z1
  obtain ⟨ito,eit,nit⟩:=z2
  obtain ⟨nd,hnd,x,rfl,N,ok⟩:=It.get hV
  apply ng;clear ng
  have csc:cenv.scope=bM (kJ (hC w.params)) (bp w.params 551):=by exact aa csc (aa esc rfl)
  refine aW (post:=fun f s=>s=⟨(S' "node",.glb (.ref x))::ls,[(S' "depth",1)],mW,[]⟩) (v:=.glb (.ref x)) (k:=fun s=>.leaf .nx s) (by rw [csc,Db]; rfl) S5 rfl fun s6 h6 n6 y6 S6=>?_
  rw [show s6=_ from y6] at S6
  refine jv (AW w.params) rfl (oy HH csc (JF w.params _ (S' "") default) RR S6 fun V h7 as7 n7 S7 p7 dv=>⟨dv,?_⟩)
  refine cQ (post:=fun f s=>f = .rt (.glb (.ref x))/\s=⟨(S' "",.int (.c 1))::(S' "node",.glb (.ref x))::ls,[(S' "depth",1)],mW,[]⟩) (k:=k2) (HH.run 12) RR (by refine aa csc ?_; exact (congrArg (fun t=>Tr.ok _ _ t) (Jm w.params x ls k2)).mpr ⟨rfl,rfl⟩) S7 fun vs Ws s8 h8 as8 n8 y8 S8 p8 dvs hws=>⟨S8.k,?_⟩
  clear hws
  rw [(o4 (s0:=⟨(S' "node",.glb (.ref x))::ls,[(S' "depth",1)],mW,[]⟩) y8).1] at dvs
  rw [(o4 (s0:=⟨(S' "node",.glb (.ref x))::ls,[(S' "depth",1)],mW,[]⟩) y8).2] at S8
  apply bc;intro ng
  obtain ⟨W1,W2,eW,d1,t2,d2⟩:=dvs.two
  rw [eW,show W1 = .ref x from d1,d2] at ng
  apply ng;clear ng eW d1 d2 dvs y8 S5 S6 S7
  have kg8:bf g h8.get?:=fun b o e=>S8.kp _ _ (g1 _ _ (gg _ _ (kg _ _ e)))
  refine qw S8.wd kg8 Fo N (np nd (List.mem_of_getElem? hnd)) (R1.le (by (first | decide | lia | omega))) fun V h9 n9 k9 tr9=>?_
  obtain ⟨S10,le10⟩:=(S8.stay k9).wide
  have cls:∀b Us,At h9.get? b (.tup Us)->At (strip [env.locals] (strip [h3.objs.size,ac] (dA h9 cenv.locals mW as8))) b (.tup Us):=by
   rintro b Us ⟨o,e1,e2,m,e3⟩
   have kb:∀x y,G' x=some y->h9.get? x=some y:=fun x y e=>k9 _ _ (S8.kp _ _ e)
   have nb:∀x y,h9.get? x=some y->(∀vs m,y.data≠.seq vs m)->b≠x:=fun x y e z q=>by rw [q,e] at e1; cases e1; exact z _ _ e3
   have b1:b≠env.locals:=nb _ oL (kb _ _ (hL oL l2)) nL
   have b2:b≠h3.objs.size:=nb _ ito (kb _ _ eit) nit
   have b3:b≠ac:=fun q=>by
    obtain ⟨o2,f1,m2,rfl⟩:=lac
    have:=kb _ _ f1
    rw [<- q,e1] at this; cases this
    have e2:Value.type "list" = .type "tuple":=e2
    injection e2 with z; exact absurd z (by decide)
   obtain ⟨fc,⟨oc,ec,epc,w1,w2,_⟩,_⟩:=S10.lc
   have b4:b≠cenv.locals:=nb _ oc w1 (fun vs m q=>by rw [w2] at q; cases q)
   refine ⟨o,?_,e2,m,e3⟩
   unfold strip; refine aa (if_neg (by simpa using b1)) (aa (if_neg (by simp [b2,b3])) ?_)
   unfold dA; rw [if_neg]
   ·exact e1
   ·rintro (z | z)
    ·exact b4 z
    ·obtain ⟨j,oj,z1,z2,z3⟩:=dF.mp z
     match j,z1 with
     | 0,z1=>cases z1; cases z2
     | 1,z1 =>
      cases z1
      obtain ⟨V,-,ov,q1,q2⟩:=(S10.ob 1 _ b rfl z3).1
      rw [e1] at q1; cases q1
      have q2:o.data = .cell V:=q2
      rw [e3] at q2; cases q2
     | j + 2,z1=>simp [mW] at z1
  refine qT _ (bv []) _ h9 n9 as8 _ le10 ⟨rfl,rfl,rfl,rfl,?_⟩ S10 fun zw m=>nomatch m
  refine aa List.take_add_one (aa hnd ?_)
  have up:bf (strip [env.locals] G1) (strip [env.locals] (strip [h3.objs.size,ac] (dA h9 cenv.locals mW as8))):=fun x o e=>by
   unfold strip at e ⊢
   split at e
   ·exact ap e
   ·rename_i hx
    refine aa (if_neg hx) (aa (if_neg (fun m=>by rw [fr x m] at e; cases e)) ?_)
    exact le10 _ _ (g1 _ _ e)
  exact (hT.mono fun zw zw z=>z.mono (Nat.le_refl _) fun zw zw zz=>zz.le (up _)).app (.cons (tr9.mono (Nat.le_refl _) cls) .nil)
 ·rintro ρ ⟨ls,cl,ob,pc⟩ h5 n5 as5 G' ac Us ⟨rfl,rfl,rfl,rfl,hT⟩ gg back _ lac _ _
  have S5:=back [] [] (fun x v e=>by exact ap e) (fun x i e=>by exact ap e)
  have hl5:h5.IsList ac Us.toArray:=At.pl lac
  have ul:Us.length=Vs.length:=by refine aa (Eq.symm hT.len) (aa It.len ?_); simp
  refine call_tuple_list (s:=⟨h5,gs,dr,n5,os⟩) hl5 (fun h6 kk=>?_) (by simp; refine aa sizeLine_eq ?_; (first | decide | lia | omega))
  have hn:nds.take Vs.length=nds:=by refine aa It.len ?_; simp
  rw [hn] at hT
  have k7:∀b o,h5.get? b=some o->(h6.push { cls:=.type "tuple",data:=.seq Us.toArray }).get? b=some o:=fun b o e=>Heap.get?_push_of_some _ (kk b o e)
  refine q _ _ n5 (fun b o e=>k7 _ _ (S5.kp _ _ (gg b o e))) ⟨_,Us,rfl,⟨_,Heap.get?_push_size _ rfl,rfl,_,rfl⟩,?_⟩
  have map2:∀{l:List Nd} {m:List Value},All2 (fun nd U=>jh (strip [env.locals] G') 6 (nd.tr w.params) U) l m->All2 (fun t U=>jh (h6.push { cls:=.type "tuple",data:=.seq Us.toArray }).get? 6 t U) (l.map (Nd.tr w.params)) m:=by
   intro l m x
   induction x with
   | nil=>exact .nil
   | cons z _ ih=>exact .cons (z.mono (Nat.le_refl _) fun zw zw zz=>zz.le fun o e=>k7 _ _ (S5.kp _ _ e)) ih
  exact map2 hT
end
section
set_option backward.match.sparseCases false
noncomputable def zG:List AO:=[.tup [.int (.v 6),.int (.v 7)],.ns [(S' "ratio",.loc 0),(S' "order",.int (.v 5)),(S' "sign",.int (.v 4)),(S' "shift",.int (.v 3)),(S' "items",.loc 3),(S' "depth",.int (.v 2)),(S' "height",.int (.v 1)),(S' "width",.int (.v 0)),(S' "kind",.int (.c 2))],.inst 389 1]
def zl (g:Gr) (b a:Addr) (vs:List Int):Prop:=∃r d,All2 (fun x u=>aO (bv vs) [r,d,b,a] g x u) [r,d,b] zG
noncomputable def AB:List AO:=zG.map .fz++[.dead]
noncomputable def Ds:List (Str×AV):=[(S' "kind",.int (.c 2)),(S' "depth",.int (.c 0)),(S' "node",.loc 2)]
noncomputable def qX (P:Params):Stmt:=(al P 545).getD 4 (.Pass default)
noncomputable def FX (P:Params):Stmt:=(tQ (qX P)).getD 1 (.Pass default)
noncomputable def Cs (P:Params):Expr:=ch (FX P)
noncomputable def CZ:Expr->Expr | .BinOp a _ _ _=>a | e=>e
noncomputable def Ck:Expr->Expr | .BinOp _ _ b _=>b | e=>e
noncomputable def Ml:Expr->Pos | .BinOp _ _ _ p=>p | e=>e.pos
noncomputable def Ny:Expr->Expr | .Tuple (e::_) _ _=>e | e=>e
noncomputable def JH:Expr->Nat | .Tuple _ k _=>k | _=>0
noncomputable def Ib:Expr->Pos | .Tuple _ _ p=>p | e=>e.pos
noncomputable def kQ (P:Params):Expr:=Ny (Ck (Cs P))
theorem yh (P:Params):al P 545=(al P 545).take 4++(.If (ch (qX P)) ((tQ (qX P)).take 1++[.Return (some (.BinOp (CZ (Cs P)) .Add (.Tuple [.Call (.Name (bj (ax (kQ P))) (aS (ax (kQ P)))) [(aJ (kQ P)).getD 0 (kQ P),(aJ (kQ P)).getD 1 (kQ P)] [] (cg (kQ P))] (JH (Ck (Cs P))) (Ib (Ck (Cs P)))) (Ml (Cs P)))) (rh (FX P))]) [] (rh (qX P))::(al P 545).drop 5):=by kernel_rfl
theorem ES (P:Params):dL P 545=some (aZ P 545):=by kernel_rfl
theorem xe (P:Params):aQ (aZ P 545) [.loc 2]=some [(S' "node",.loc 2),(S' "depth",.int (.c 0))]:=by kernel_rfl
theorem Gj (P:Params):(⟨[(S' "node",AV.loc 2),(S' "depth",.int (.c 0))].reverse.filter (fun x=>decide ((aZ P 545).scope.names.lookup x.1=some .local)),(ae (aZ P 545).scope.names).zip ((List.range (ae (aZ P 545).scope.names).length).map (AB.length + ·)),AB++(ae (aZ P 545).scope.names).map (fun n=>.cell ([(S' "node",AV.loc 2),(S' "depth",.int (.c 0))].reverse.lookup n)),[]⟩:St)=⟨[(S' "depth",.int (.c 0)),(S' "node",.loc 2)],[],AB,[]⟩:=by kernel_rfl
noncomputable def wz:St:=⟨Ds,[],AB,[]⟩
noncomputable def xk:St:=⟨(S' "sizes",.loc 4)::Ds,[],AB++[.tup [.int (.v 0),.int (.v 1),.int (.v 2),.int (.v 3),.int (.v 4),.int (.v 5),.loc 0]],[]⟩
noncomputable def Tr.sm (m:List Nat) (f':Fl) (s':St):Tr->Bool
 | .leaf f s=>(aq (gV m f f') (aN m s s')).any fun p=>(p.1++p.2).all wV
 | .br _ a b=>a.sm m f' s' && b.sm m f' s'
 | _=>false
theorem jD {ρ:Rho} {m:List Nat} {f':Fl} {s':St}:∀{t:Tr},t.sm m f' s'=true->(t.vc m f' s').den ρ ρ
 | .leaf f s,h=>by
  obtain ⟨p,e,h⟩:=cw h
  show (pe (aq (gV m f f') (aN m s s'))).den ρ ρ
  refine aa e ?_
  exact gf h
 | .br c a b,h=>by
  have h:=Bool.and_eq_true_iff.mp h
  exact ⟨fun zw=>jD h.1,fun zw=>jD h.2⟩
 | .req _ _,h=>by exact bH h
 | .fail,h=>by exact bH h
theorem FT (P:Params):(cD P aA 14 (bp P 545) ((al P 545).take 4) ⟨[(S' "depth",.int (.c 0)),(S' "node",.loc 2)],[],AB,[]⟩).sm [0,1,2,3] .nx wz=true:=by kernel_rfl
theorem Ha (P:Params):kO P aA 14 (bp P 545) (ch (qX P)) wz = .leaf (.rt (.bool true)) wz:=by kernel_rfl
theorem CR (P:Params):(cD P aA 14 (bp P 545) ((tQ (qX P)).take 1) wz).sm [0,1,2,3,4] .nx xk=true:=by kernel_rfl
noncomputable def jQ:St:=⟨xk.ls,[],xk.ob++[.tup [.int (.c 2)],.tup [.int (.c 2),.int (.v 0),.int (.v 1),.int (.v 2),.int (.v 3),.int (.v 4),.int (.v 5),.loc 0]],[]⟩
theorem JV (P:Params):bB P aA 14 (bp P 545) (CZ (Cs P)) xk = .leaf (.rt (.loc 6)) jQ:=by kernel_rfl
theorem IX (P:Params):bB P aA 14 (bp P 545) (.Name (bj (ax (kQ P))) (aS (ax (kQ P)))) jQ = .leaf (.rt (.glb (.ref 551))) jQ:=by kernel_rfl
theorem IP (P:Params) (k:List AV->St->Tr):m7 (fJ P aA 14) (bp P 545) [(aJ (kQ P)).getD 0 (kQ P),(aJ (kQ P)).getD 1 (kQ P)] jQ k=k [.loc 3,.int (.c 1)] jQ:=by kernel_rfl
theorem Lg (P:Params):([(aJ (kQ P)).getD 0 (kQ P),(aJ (kQ P)).getD 1 (kQ P)].all fun e=>!aK e)=true:=by kernel_rfl
theorem K5 (P:Params):keepIn (K P) (.ref 551)=true:=by kernel_rfl
end
section
variable {w:World} {A:Around} {gs:Array GenState} {dr:Drawn} {os:OsState} {h:Heap} {n:Nat} {g:Gr} {F:List Addr}
noncomputable def zo (P:Params) (vs:List Int) (nds:List Nd):PT:=.tup [.int 2,.int (vs.getD 0 0),.int (vs.getD 1 0),.int (vs.getD 2 0),.int (vs.getD 3 0),.int (vs.getD 4 0),.int (vs.getD 5 0),.tup [.int (vs.getD 6 0),.int (vs.getD 7 0)],.tup (nds.map (Nd.tr P))]
theorem CS {as:List Addr} {vs:List Int} {Xs Rs:List Value} {T:Value} {t:PT} {r:Addr} {g1 g2:Gr} (x1:All2 (Dn (bv vs) as) [.int (.c 2),.int (.v 0),.int (.v 1),.int (.v 2),.int (.v 3),.int (.v 4),.int (.v 5),.loc 0] Xs) (y2:At g1 r (.tup Rs)) (y1:All2 (Dn (bv vs) as) [.int (.v 6),.int (.v 7)] Rs) (e0:as[0]? = some r) (k:bf g1 g2) (tT:jh g2 7 t T) :
  All2 (jh g2 7) [.int 2,.int (vs.getD 0 0),.int (vs.getD 1 0),.int (vs.getD 2 0),.int (vs.getD 3 0),.int (vs.getD 4 0),.int (vs.getD 5 0),.tup [.int (vs.getD 6 0),.int (vs.getD 7 0)],t] (Xs++[T]):=by
 have int:∀{e:IE} {k:Nat} (X:Value),Dn (bv vs) as (.int e) X->jh g2 (k + 1) (.int (e.den (bv vs))) X:=fun X h=>h
 exact All2.app (l:=[.int 2,.int (vs.getD 0 0),.int (vs.getD 1 0),.int (vs.getD 2 0),.int (vs.getD 3 0),.int (vs.getD 4 0),.int (vs.getD 5 0),.tup [.int (vs.getD 6 0),.int (vs.getD 7 0)]]) (x1.rel (.cons int (.cons int (.cons int (.cons int (.cons int (.cons int (.cons int (.cons (fun X d=>⟨r,Rs,cA d e0,y2.le (k r),y1.rel (.cons int (.cons int .nil))⟩) .nil))))))))) (.cons tT .nil)
theorem lp (W:Wd w h) (kg:bf g h.get?) (Fo:aU w g F) {a b:Addr} {vs:List Int} {Vs:List Value} {nds:List Nd} (I:At h.get? a (.lst Vs)) (It:All2 (fun V nd=>∃x,V = .ref x/\bQ g F x nd/\nd.ok) Vs nds) (np:∀nd∈nds,nd.k≠.pck) (hz:Vs.length<=1000) (B:zl h.get? b a vs) (R:Room A 80) {Q:Value->Shared->Prop} {E:Value->Shared->Prop}
  (q:∀V h' n',h.StaysIn h'->jh h'.get? 8 (zo w.params vs nds) V->Q V ⟨h',gs,dr,n',os⟩):wpAny (model pr w) A (call (.ref 545) [.ref b]) Q E ⟨h,gs,dr,n,os⟩:=by
 have HH:∀{ρ:Rho},H2 w ρ (OW h) aA 2:=H2.no (bf.hb W)
 apply bc;intro ng
 obtain ⟨r,d,bx⟩:=B
 have C0:Co w (bv vs) (OW h) h.get? h AB [] [r,d,b,a]:=Co.all W (fun zw zw e=>e) (.cons ⟨bx.hd,rfl⟩ (.cons ⟨bx.tl.hd,rfl⟩ (.cons ⟨bx.tl.tl.hd,rfl⟩ (.cons ⟨trivial,rfl⟩ .nil))))
 refine ng (go (R.le (m:=74 + 1) (by decide)) (ES w.params) (xe w.params) C0 (.cons ⟨b,rfl,rfl⟩ .nil) fun A' env h1 n1 as1 R1 esc p1 S1 E'=>?_); clear ng
 refine dh fun Q' E' kq zw=>?_
 replace esc:env.scope=bp w.params 545:=esc
 have RR:Room A' (14 + 2):=R1.le (by decide)
 rw [Gj w.params,p1.eq S1.sz] at S1
 refine aa (show (aZ w.params 545).body=_ from yh w.params) ?_
 refine aH (z8 HH esc rfl RR S1 rfl (as2:=[r,d,b,a]) rfl (jD (FT w.params)) fun h2 n2 S2=>?_)
 refine wpAny_execs_cons (wpAny_If (rR HH esc (Ha w.params) RR S2 (fun zw=>rfl) fun c h3 as3 n3 ec S3 p3=>?_))
 refine aa (Eq.symm (AV.bool.inj (Fl.rt.inj ec))) (aa (if_pos rfl) ?_)
 rw [S2.same S3 p3 rfl] at S3
 show wpAny _ _ (execs (_++_) env) _ _ _
 refine aH (iM HH esc rfl RR S3 (jD (CR w.params)) fun h4 as4 n4 S4 p4=>?_)
 apply bc;intro ng
 obtain ⟨u,rfl⟩:=p4
 refine ng (wpAny_execs_cons (wpAny_Return_some (wpAny_BinOp (tO HH esc (JV w.params) RR S4 fun V h5 as5 n5 S5 p5 dv=>?_)))); clear ng
 refine Tuple_ (PyProof.Rows.spliced_more (jv (K5 w.params) (Lg w.params) (tO HH esc (IX w.params) RR S5 fun U h6 as6 n6 S6 p6 du=>⟨du,?_⟩)) rfl)
 refine cQ (post:=fun f s=>f = .rt (.loc 3)/\s = { jQ with ls:=(S' "",.int (.c 1))::jQ.ls }) (k:=k2) (HH.run 14) RR (by refine aa esc ?_; exact (congrArg (fun t=>Tr.ok _ _ t) (IP w.params k2)).mpr ⟨rfl,rfl⟩) S6 fun vs' Ws s8 h8 as8 n8 y8 S8 p8 dvs hws=>⟨S8.k,?_⟩
 clear hws
 rw [(o4 (s0:=jQ) y8).1] at dvs
 rw [(o4 (s0:=jQ) y8).2] at S8
 have p68:=p6.trans p8
 have dv:=dv.pre p68
 have p58:=p5.trans p68
 have e3:as8[3]? = some a:=p58.get rfl
 have e0:as8[0]? = some r:=p58.get rfl
 clear S1 S2 S3 S4 S5 S6 p3 p5 p6 p8 p68 p58 y8 du ec
 apply bc;intro ng
 obtain ⟨W1,W2,eW,d1,t2,d2⟩:=dvs.two
 rw [eW,cA d1 e3,d2] at ng
 refine ng (qP S8.wd (fun x o e=>S8.kp _ _ (kg _ _ e)) Fo (I.le fun o e=>S8.kp _ _ e) It np hz (R1.le (by decide)) fun T h9 n9 k9 tr9=>PyProof.Rows.spliced_none ?_); clear ng
 have S9:=S8.stay k9
 clear S8 dvs d1 eW
 refine wpAny_newObj_type (s:=⟨h9,gs,dr,n9,os⟩) ?_ (show 1<=sizeLine by refine aa sizeLine_eq ?_; decide)
 show wpAny _ _ _ _ _ ⟨h9.push { cls:=.type "tuple",data:=.seq [T].toArray },gs,dr,n9,os⟩
 have kp:h9.StaysIn (h9.push { cls:=.type "tuple",data:=.seq [T].toArray }):=fun zw zw e=>Heap.get?_push_of_some _ e
 have l2:IsTup (h9.push { cls:=.type "tuple",data:=.seq [T].toArray }) h9.objs.size [T].toArray:=⟨_,Heap.get?_push_size _ rfl,rfl,_,rfl⟩
 have S10:=S9.stay kp
 have trT:=tr9.mono (g':=(h9.push { cls:=.type "tuple",data:=.seq [T].toArray }).get?) (Nat.le_refl _) fun zw zw z=>z.le (kp _)
 generalize h9.push { cls:=.type "tuple",data:=.seq [T].toArray }=H at S10 l2 trT
 clear S9 kp tr9 k9
 apply bc;intro ng
 obtain ⟨v,ev,eV⟩:=(show Dn (bv vs) as8 (.loc 6) V from dv)
 obtain ⟨Xs,x1,x2⟩:=(S10.ob 6 _ v rfl ev).1
 obtain ⟨Rs,y1,y2⟩:=(S10.ob 0 _ r rfl e0).1
 rw [eV] at ng
 have ln:Xs.length=8:=x1.len.symm
 refine ng (C8 (n:=n9) x2 l2 (by simp; omega) (fun z=>by rw [z] at ln; cases ln) (fun zw z=>by cases z) fun zw zw=>?_); clear ng
 exact kq _ _ (q _ _ n9 (fun x o e=>Heap.get?_push_of_some _ (S10.kp _ _ e)) ⟨_,_,rfl,⟨_,Heap.get?_push_size _ rfl,rfl,_,rfl⟩,CS x1 y2 y1 e0 (fun x o e=>Heap.get?_push_of_some _ (S10.kp _ _ e)) (trT.mono (Nat.le_refl _) fun zw zw z=>z.le fun o e=>Heap.get?_push_of_some _ e)⟩)
end
def eR (it:Addr) (h h':Heap):Prop:=∀b o,b≠it->h.get? b=some o->h'.get? b=some o
structure NxP (w:World) (G:Gr) (tg:Expr) (it:Addr) (N:Nat) (J:Nat->Heap->Prop) (JO:Nat->Heap->Value->Prop) (P:Nat->Heap->Value->Prop):Prop where
 item:∀{i:Nat} {A:Around} {E:Value->Shared->Prop} {st:Shared} {Q:Option Value->Shared->Prop},i < N->J i st.heap->bf G st.heap.get?->(∀h' V n',JO (i + 1) h' V->eR it st.heap h'->P i h' V->Q (some V) ⟨h',st.gens,st.drawn,n',st.os⟩)->wpAny (model pr w) A (pyNext (.ref it)) Q E st
 go:∀{i:Nat} {A:Around} {E:Value->Shared->Prop} {st:Shared} {Q:Unit->Shared->Prop} {V:Value},JO (i + 1) st.heap V->P i st.heap V->(∀h',J (i + 1) h'->eR it st.heap h'->P i h' V->Q () ⟨h',st.gens,st.drawn,st.toks,st.os⟩)->wpAny (model pr w) A (letOwnedTupleGo tg (.ref it) V) Q E st
 stop:∀{A:Around} {E:Value->Shared->Prop} {st:Shared} {Q:Option Value->Shared->Prop},A.handled=none->J N st.heap->bf G st.heap.get?->(∀h',eR it st.heap h'->Q none { st with heap:=h' })->wpAny (model pr w) A (pyNext (.ref it)) Q E st
 keep:∀{i:Nat} {h h':Heap},J i h->(∀o,h.get? it=some o->h'.get? it=some o)->J i h'
 ex:∀{i:Nat} {h:Heap},J i h->∃o,h.get? it=some o
section
variable {w:World} {ρ:Rho} {O:Opq} {G:Gr} {env:Env} {A:Around} {gs:Array GenState} {dr:Drawn} {os:OsState} {s:St} {as:List Addr}
theorem FV {d:Nat} (hR:Room A d) {tg:Expr} {body:List Stmt} {it:Addr} {N:Nat} {J:Nat->Heap->Prop} {JO:Nat->Heap->Value->Prop} {P:Nat->Heap->Value->Prop} (X:NxP w G tg it N J JO P) {h:Heap} {n:Nat} (j0:J 0 h) (gi:G it=none) (off:jr [it] env.locals s.ob as) (S:SR w ρ O G env h s as) {RR:Result->Shared->Prop}
  (turn:∀i G' h n V,i < N->P i h V->bf G G'->SR w ρ O G' env h s as->∀(T:Flow->Shared->Prop) (E1 E2:Value->Shared->Prop),(∀F h' n',(F = .next\/F = .cont)->SR w ρ O G' env h' s as->T F ⟨h',gs,dr,n',os⟩)->wpAny (model pr w) A (assign tg env V) (fun zw s₂=>wpAny (model pr w) A (execs body env) T E1 s₂) E2 ⟨h,gs,dr,n,os⟩)
  (done:∀h n,SR w ρ O G env h s as->RR (.ok .next) ⟨h,gs,dr,n,os⟩):codeAny (model pr w) A (.forLoop tg (.ref it) body [] env) RR ⟨h,gs,dr,n,os⟩:=by
 have fr:∀a∈[it],G a=none:=fun a m=>by refine aa (List.mem_singleton.mp m) ?_; exact gi
 refine codeAny_forLoop_any (fun k st=>∃i h n,k + i=N/\st=⟨h,gs,dr,n,os⟩/\J i h/\SR w ρ O G env h s as) (fun k st I=>?_) N ⟨0,h,n,rfl,rfl,j0,S⟩
 apply bc;intro ng
 obtain ⟨i,h,n,hk,rfl,j,S⟩:=I
 apply ng;clear ng
 have sb:∀{h h':Heap},eR it h h'->∀b x,b ∉ [it]->h.get? b=some x->h'.get? b=some x:=fun k b x m e=>k b x (fun q=>m (q▸.head _)) e
 by_cases hi:i < N
 ·refine X.item hi j (fun a o e=>S.kp a o e) fun h1 V n1 j1 k1 p1=>?_
  refine X.go (st:=⟨h1,gs,dr,n1,os⟩) j1 p1 fun h2 j2 k2 p2=>?_
  have S2:=(S.off fr off (sb k1)).off fr off (sb k2)
  have S3:=S2.pin (h:=h2) off fr
  refine turn i _ h2 n1 V hi p2 (bf.add fr) S3 _ _ _ fun F h4 n4 hF S4=>?_
  apply bc;intro ng
  have ai:∀o,h2.get? it=some o->(G.add h2 [it]) it=some o:=fun o e=>by unfold Gr.add; refine aa (if_pos (.head _)) ?_; exact e
  have j4:J (i + 1) h4:=X.keep j2 fun o e=>S4.kp _ _ (ai o e)
  obtain ⟨S5,_,le5,_⟩:=S4.unpin (G0:=G) (l:=[it]) S.bs S.og fr (bf.add fr) (fun a m=>by
   refine aa (List.mem_singleton.mp m) ?_
   obtain ⟨o,e⟩:=X.ex j2
   exact ⟨o,ai o e⟩) (fun b x zw e=>e)
  apply ng;clear ng
  have S6:SR w ρ O G env h4 s as:=by
   have eqG:strip [it] (G.add h2 [it])=G:=by
    funext b
    unfold strip Gr.add
    by_cases m:b∈[it]
    ·exact aa (if_pos m) (aa (fr b m) rfl)
    ·exact aa (if_neg m) (aa (if_neg m) rfl)
   rw [eqG] at S5; exact S5
  have z:∃m,m < k/\∃i h n,m + i=N/\(⟨h4,gs,dr,n4,os⟩:Shared)=⟨h,gs,dr,n,os⟩/\J i h/\SR w ρ O G env h s as:=⟨k - 1,by omega,i + 1,h4,n4,by omega,rfl,j4,S6⟩
  induction hF with
  | inl e=>refine aa e ?_; exact z
  | inr e=>refine aa e ?_; exact z
 ·have hiN:i=N:=by (first | lia | omega)
  exact X.stop hR.hd (hiN▸j) (fun a o e=>S.kp a o e) fun h1 k1=>wpAny_execs_nil (done h1 n (S.off fr off (sb k1)))
end
theorem eR.sb {it:Addr} {h h':Heap} (k:Heap.SameBut it h h'):eR it h h':=fun b o m e=>(k.2 b m).trans e
theorem NxP.keys {w:World} {G:Gr} {it d:Addr} {kvs:List (Int×Value)} {ep:Nat} {x:Str} {px:Pos} (D:∀h:Heap,bf G h.get?->h.DictAt (intKind pr w) d kvs ep):NxP w G (.Name x px) it kvs.length (fun i h=>h.IsKeyIter it d i kvs.length ep) (fun i h zw=>h.IsKeyIter it d i kvs.length ep) (fun i zw V=>∃k v t,kvs[i]? = some (k,v)/\V = .int k t):=by
 refine ⟨fun {i A E st Q} hi j k q=>?_,fun {i A E st Q V} j p q=>wpAny_of_eq (a:=()) rfl (q _ j (fun zw zw zw e=>e) p),fun {A E st Q} hh j k q=>?_,fun {i h h'} j k=>?_,fun {i h} j=>?_⟩
 ·refine wpAny_pyNext_dict_item j (D _ k) (k:=(kvs[i]).1) (v:=(kvs[i]).2) (by simp [hi]) fun key h' hk j' hs=>?_
  obtain ⟨t,rfl⟩:=Value.isInt_shape hk
  exact q h' _ st.toks j' (.sb hs) ⟨(kvs[i]).1,(kvs[i]).2,t,by simp [hi],rfl⟩
 ·exact wpAny_pyNext_dict_end hh j (D _ k) (by simp) fun h' he=>q h' fun b o m e=>he b o m e
 ·obtain ⟨o,e,z⟩:=j; exact ⟨o,k o e,z⟩
 ·obtain ⟨o,e,_⟩:=j; exact ⟨o,e⟩
theorem NxP.items {w:World} {G:Gr} {it d:Addr} {kvs:List (Int×Value)} {ep:Nat} {elts:List Expr} {x1:Nat} {px:Pos} (D:∀h:Heap,bf G h.get?->h.DictAt (intKind pr w) d kvs ep) :
  NxP w G (.Tuple elts x1 px) it kvs.length (fun i h=>∃ok ov,IsItemIter h it d i kvs.length ep ok ov) (fun i h V=>∃ok ov a,V = .ref a/\IsItemIterOut h it d i kvs.length ep ok ov a) (fun i h V=>∃a k v t,V = .ref a/\a≠it/\kvs[i]? = some (k,v)/\IsTup h a #[.int k t,v]):=by
 refine ⟨fun {i A E st Q} hi j k q=>?_,fun {i A E st Q V} j p q=>?_,fun {A E st Q} hh j k q=>?_,fun {i h h'} j k=>?_,fun {i h} j=>?_⟩
 ·obtain ⟨ok,ov,j⟩:=j
  refine wpAny_pyNext_items_item j (D _ k) (k:=(kvs[i]).1) (v:=(kvs[i]).2) (by simp [hi]) fun key h' hk j' ht zw hs=>?_
  apply bc;intro ng
  obtain ⟨t,rfl⟩:=Value.isInt_shape hk
  apply ng;clear ng
  have ne:st.heap.objs.size≠it:=Nat.ne_of_gt (Heap.lt_size j)
  exact q h' _ st.toks ⟨_,_,_,rfl,j'⟩ (fun b o m e=>hs b o m e) ⟨_,_,_,t,rfl,ne,by simp [hi],_,ht,rfl,_,rfl⟩
 ·obtain ⟨ok,ov,a,rfl,j⟩:=j
  refine wpAny_letOwnedTupleGo_items j fun h' j' hs=>q h' ⟨_,_,j'⟩ (.sb hs) ?_
  apply bc;intro ng
  obtain ⟨a',k,v,t,e1,ne,e2,o,e3,e4⟩:=p
  apply ng;clear ng
  exact ⟨a',k,v,t,e1,ne,e2,o,(hs.2 a' ne).trans e3,e4⟩
 ·obtain ⟨ok,ov,j⟩:=j
  exact wpAny_pyNext_items_end hh j (D _ k) (by simp) fun h' he=>q h' fun b o m e=>he b o m e
 ·obtain ⟨ok,ov,j⟩:=j; exact ⟨ok,ov,k _ j⟩
 ·obtain ⟨ok,ov,j⟩:=j; exact ⟨_,j⟩
noncomputable def ny (l:List Int):List AV:=l.map fun n=>.int (.c n)
noncomputable def Bt:List AO:=[.fz (.dc [(97,.loc 1),(98,.loc 2),(99,.loc 3)]),.fz (.tup (ny [5,7,2,0,0,0])),.fz (.tup (ny [11,3,0,0,0,0])),.fz (.tup (ny [4,1,9,0,0,0]))]
noncomputable def CI:Nat->Int | 0=>97 | 1=>98 | _=>99
noncomputable def yg (P:Params):Stmt:=(al P 718).getD 0 (.Pass default)
noncomputable def zO:St:=⟨[(S' "chars",.loc 0)],[],Bt,[]⟩
theorem xD (P:Params):al P 718 = [.For (.Name (bj (cy (yg P))) (aS (cy (yg P)))) (aR (yg P)) (bg (yg P)) [] (yg P).pos]:=by kernel_rfl
theorem Dm (P:Params):dL P 718=some (aZ P 718):=by kernel_rfl
theorem wP (P:Params):aQ (aZ P 718) [.loc 0]=some [(S' "chars",.loc 0)]:=by kernel_rfl
theorem Ep (P:Params):(⟨[(S' "chars",AV.loc 0)].reverse.filter (fun x=>decide ((aZ P 718).scope.names.lookup x.1=some .local)),(ae (aZ P 718).scope.names).zip ((List.range (ae (aZ P 718).scope.names).length).map (Bt.length + ·)),Bt++(ae (aZ P 718).scope.names).map (fun n=>.cell ([(S' "chars",AV.loc 0)].reverse.lookup n)),[]⟩:St)=zO:=by kernel_rfl
theorem Ji (P:Params):bB P aA 12 (bp P 718) (aR (yg P)) zO = .leaf (.rt (.loc 0)) zO/\cp (aR (yg P))=false:=⟨by kernel_rfl,by kernel_rfl⟩
theorem Jf (P:Params) (i:Nat) (h:i < 3):(ya P aA 16 (bp P 718) (bj (cy (yg P))) (.int (.c (CI i))) (bg (yg P)) zO).sm [0,1,2,3] .ct zO=true:=by
 match i,h with
 | 0,_=>kernel_rfl
 | 1,_=>kernel_rfl
 | 2,_=>kernel_rfl
noncomputable def m6 (P:Params):Stmt:=(al P 711).getD 0 (.Pass default)
noncomputable def ww:St:=⟨[(S' "many",.int (.c 0)),(S' "chars",.loc 0)],[],Bt,[]⟩
noncomputable def DU:Expr->List Expr | .Tuple l _ _=>l | _=>[]
theorem xN (P:Params):al P 711 = [.For (.Tuple (DU (cy (m6 P))) (JH (cy (m6 P))) (Ib (cy (m6 P)))) (.Call (.Attribute (ca (ax (aR (m6 P)))) (S' "items") (d6 (ax (aR (m6 P))))) [] [] (cg (aR (m6 P)))) (bg (m6 P)) [] (m6 P).pos]:=by kernel_rfl
theorem Gd (P:Params):dL P 711=some (aZ P 711):=by kernel_rfl
theorem yn (P:Params):aQ (aZ P 711) [.loc 0,.int (.c 0)]=some [(S' "chars",.loc 0),(S' "many",.int (.c 0))]:=by kernel_rfl
theorem DI (P:Params):(⟨[(S' "chars",AV.loc 0),(S' "many",.int (.c 0))].reverse.filter (fun x=>decide ((aZ P 711).scope.names.lookup x.1=some .local)),(ae (aZ P 711).scope.names).zip ((List.range (ae (aZ P 711).scope.names).length).map (Bt.length + ·)),Bt++(ae (aZ P 711).scope.names).map (fun n=>.cell ([(S' "chars",AV.loc 0),(S' "many",.int (.c 0))].reverse.lookup n)),[]⟩:St)=ww:=by kernel_rfl
noncomputable def MQ (P:Params):Expr:=ca (ax (aR (m6 P)))
theorem IN (P:Params):bB P aA 12 (bp P 711) (MQ P) ww = .leaf (.rt (.loc 0)) ww/\cu (MQ P)=false/\((d6 (ax (aR (m6 P)))).endLine == (cg (aR (m6 P))).line)=true:=⟨by kernel_rfl,by kernel_rfl,by kernel_rfl⟩
noncomputable def Kb (P:Params) (i:Nat):Tr:=dB P (fJ P aA 28) (bp P 711) (DU (cy (m6 P))) [.int (.c (CI i)),.loc (1 + i)] ww fun s=>qm (fJ P aA 28) (bp P 711) (bg (m6 P)) s fun f s=>.leaf f { s with pc:=[] }
theorem K9 (P:Params) (i:Nat) (h:i < 3):(Kb P i).sm [0,1,2,3] .ct ww=true:=by
 match i,h with
 | 0,_=>kernel_rfl
 | 1,_=>kernel_rfl
 | 2,_=>kernel_rfl
theorem Ei (P:Params):(DU (cy (m6 P))).all cS=true/\(DU (cy (m6 P))).length=2:=⟨by kernel_rfl,by kernel_rfl⟩
theorem pi {ρ:Rho} {as:List Addr}:∀{Vs:List Value} {ns:List Int},IntsAre Vs ns->All2 (Dn ρ as) (ny ns) Vs
 | _,_,.nil=>.nil
 | _,_,.cons a t x=>.cons ⟨t,rfl⟩ (pi x)
structure Let3 (h:Heap) (d t1 t2 t3:Addr):Prop where
 d:fu h.get? d [(97,.ref t1),(98,.ref t2),(99,.ref t3)]
 a:hM h.get? t1 [5,7,2,0,0,0]
 b:hM h.get? t2 [11,3,0,0,0,0]
 c:hM h.get? t3 [4,1,9,0,0,0]
section
variable {w:World} {A:Around} {gs:Array GenState} {dr:Drawn} {os:OsState} {h:Heap} {n:Nat} {d t1 t2 t3:Addr}
theorem Let3.tab (L:Let3 h d t1 t2 t3) (W:Wd w h):Co w (bv []) (OW h) h.get? h Bt [] [d,t1,t2,t3]:=by
 apply bc;intro ng
 obtain ⟨Va,a1,a2⟩:=L.a
 obtain ⟨Vb,b1,b2⟩:=L.b
 obtain ⟨Vc,c1,c2⟩:=L.c
 apply ng;clear ng
 exact Co.all W (fun zw zw e=>e) (.cons ⟨⟨_,.cons ⟨rfl,t1,rfl,rfl⟩ (.cons ⟨rfl,t2,rfl,rfl⟩ (.cons ⟨rfl,t3,rfl,rfl⟩ .nil)),L.d⟩,rfl⟩ (.cons ⟨⟨Va,pi a1,a2⟩,rfl⟩ (.cons ⟨⟨Vb,pi b1,b2⟩,rfl⟩ (.cons ⟨⟨Vc,pi c1,c2⟩,rfl⟩ .nil))))
theorem Let3.at (L:Let3 h d t1 t2 t3):∃ep,∀h':Heap,bf h.get? h'.get?->h'.DictAt (intKind pr w) d [(97,.ref t1),(98,.ref t2),(99,.ref t3)] ep:=by
 apply bc;intro ng
 obtain ⟨-,o,e,z⟩:=L.d
 obtain ⟨es,ep,z1,z2,z3⟩:=z w
 apply ng;clear ng
 exact ⟨ep,fun h' k=>⟨o,es,k _ _ e,z1,z2,z3⟩⟩
theorem tP {as as' r:List Addr} (hF:as.take 4=r) (p:aM as as') (hr:r.length=4):([0,1,2,3].map fun j=>as'.getD j 0)=r:=by
 obtain ⟨t,rfl⟩:=p
 subst hF
 match as,hr with
 | a0::a1::a2::a3::r,_=>rfl
theorem mR (W:Wd w h) (L:Let3 h d t1 t2 t3) (R:Room A 60) {Q:Value->Shared->Prop} {E:Value->Shared->Prop}
  (q:∀h' n',h.StaysIn h'->Q .none ⟨h',gs,dr,n',os⟩):wpAny (model pr w) A (call (.ref 718) [.ref d]) Q E ⟨h,gs,dr,n,os⟩:=by
 have HH:∀{ρ:Rho},H2 w ρ (OW h) aA 2:=H2.no (bf.hb W)
 refine go (R.le (m:=58 + 1) (by (first | decide | lia | omega))) (Dm w.params) (wP w.params) (L.tab W) (.cons ⟨d,rfl,rfl⟩ .nil) fun A' env h1 n1 as1 R1 esc p1 S1 E'=>?_
 have S1:SR w (bv []) (OW h) h.get? env h1 zO as1:=by refine aa (Eq.symm (Ep w.params)) ?_; exact S1
 have esc:env.scope=bp w.params 718:=esc
 show wpAny _ _ (execs (al w.params 718) env) _ _ _
 rw [xD]
 apply bc;intro ng
 obtain ⟨i1,i2⟩:=Ji w.params
 apply ng;clear ng
 refine wpAny_execs_cons (wpAny_For (oy HH esc i1 (R1.le (m:=12 + 2) (by (first | decide | lia | omega))) S1 fun V h2 as2 n2 S2 p2 dv=>?_) (dH i2))
 have S2:SR w (bv []) (OW h) h.get? env h2 zO [d,t1,t2,t3]:=by
  have e:=p1.eq S1.sz
  rw [e] at S1 p2
  exact S1.same S2 p2 rfl▸S2
 apply bc;intro ng
 obtain ⟨x,ex,rfl⟩:=dv
 have:as2[0]? = some d:=p2.get (p1.get rfl)
 rw [this] at ex; cases ex
 obtain ⟨ep,D⟩:=L.at (w:=w)
 apply ng;clear ng
 refine wpAny_pyIter_dict (s:=⟨h2,gs,dr,n2,os⟩) L.d.1 (D h2 S2.kp) ?_
 have S3:=S2.stay (h':=h2.push { cls:=.type "dict_keyiterator",data:=.fields #[.ref d,.int 0 0,.int 3 0,.int ep 0] }) fun zw zw e=>Heap.get?_push_of_some _ e
 have gi:h.get? h2.objs.size=none:=by
  induction qq:h.get? h2.objs.size with
  | none=>rfl
  | some y=>exact absurd (Heap.lt_size (S2.kp _ _ qq)) (Nat.lt_irrefl _)
 have off:jr [h2.objs.size] env.locals zO.ob [d,t1,t2,t3]:=fun b m=>by
  refine aa (List.mem_singleton.mp m) ?_
  apply bc;intro ng
  obtain ⟨f,N,_⟩:=S2.lc
  apply ng;clear ng
  exact ⟨Nat.ne_of_gt N.lt,fun i o e ow e'=>absurd ((S2.ob i o _ e e').1.lt ow) (Nat.lt_irrefl _)⟩
 refine FV R1 (NxP.keys (kvs:=[(97,.ref t1),(98,.ref t2),(99,.ref t3)]) D) ⟨_,Heap.get?_push_size _ rfl,rfl,rfl⟩ gi off S3 ?_ ?_
 ·rintro i G' h5 n5 V hi z1 le S5 T E1 E2 qT
  apply bc;intro ng
  obtain ⟨k,v,t,hk,rfl⟩:=z1
  have hi:i < 3:=hi
  have ek:k=CI i:=by
   match i,hi,hk with
   | 0,_,hk=>cases hk; rfl
   | 1,_,hk=>cases hk; rfl
   | 2,_,hk=>cases hk; rfl
  subst ek
  apply ng;clear ng
  refine wpAny_assign_Name (rS (n0:=16) (v:=.int (.c (CI i))) HH esc rfl (R1.le (m:=16 + 2) (by (first | decide | lia | omega))) S5 ⟨t,rfl⟩ (jD (Jf w.params i hi)) fun F h6 as6 n6 hF S6 p6=>?_)
  rw [tP rfl p6 rfl] at S6
  exact qT F h6 n6 hF S6
 ·intro h5 n5 S5
  exact wpAny_execs_nil (q h5 n5 S5.kp)
end
section
variable {w:World} {A:Around} {gs:Array GenState} {dr:Drawn} {os:OsState} {h:Heap} {n:Nat} {d t1 t2 t3:Addr} {env:Env}
theorem ND {o:Expr} {apos pos:Pos} {st:Shared} {Q:Value->Shared->Prop} {Er:Value->Shared->Prop} (c1:(apos.endLine == pos.line)=true) (c3:cu o=false)
  (q:wpAny (model pr w) A (eval o env) (fun V s₁=>∃d kvs,V = .ref d/\fu s₁.heap.get? d kvs/\Q (.ref s₁.heap.objs.size) { s₁ with heap:=s₁.heap.push { cls:=.type "dict_items",data:=.fields #[.ref d] } }) Er st) :
  wpAny (model pr w) A (eval (.Call (.Attribute o (S' "items") apos) [] [] pos) env) Q Er st:=by
 show wpAny (model pr w) A (do
  let ov <- attributeBase o (S' "items") env (eval o env)
  standAt apos.atName
  methodCall o (S' "items") apos pos env ov (0 + 0) (backTo pos (starEach [] env)) []) Q Er _
 refine aa (eQ c3) ?_
 refine wpAny_bind (wpAny_mono q (fun V s₁ z=>?_) fun zw zw z=>z)
 apply bc;intro ng
 obtain ⟨d,kvs,rfl,D,z⟩:=z
 apply ng;clear ng
 refine wpAny_bind (wpAny_standAt ?_)
 unfold methodCall
 refine aa (show methodCallForm (0 + 0) (backTo pos (starEach [] env)) []=true from rfl) ?_
 have D':=D.of w
 refine wpAny_bind (wpAny_holding (getMethod_builtin D'.typeIs PySem.F.plainAttrs_dict PySem.F.slot_dict_items PySem.F.type_dict_items (fun a e=>?_) ?_))
 ·cases e
  apply bc;intro ng
  obtain ⟨o1,es,ep,e1,e2,_⟩:=D'
  apply ng;clear ng
  exact ⟨o1,e1,e2.2.1⟩
 refine wpAny_bind (wpAny_of_eq (show methodCallPos true o env apos pos=pure pos from ?_) ?_)
 ·unfold methodCallPos; refine aa c1 ?_; simp
 exact method_meetsIn F.slot_dict_items F.entry_dict_items rfl (PyProof.Rows.evalArgs_none ⟨rfl,D'.typeIs,F.args_dict_items_1 _,_,meets_dict_items _ d D.1,⟨kvs,D'⟩,z⟩)
theorem qf (W:Wd w h) (L:Let3 h d t1 t2 t3) {t:Tok} (R:Room A 60) {Q:Value->Shared->Prop} {E:Value->Shared->Prop}
  (q:∀h' n',h.StaysIn h'->Q .none ⟨h',gs,dr,n',os⟩):wpAny (model pr w) A (call (.ref 711) [.ref d,.int 0 t]) Q E ⟨h,gs,dr,n,os⟩:=by
 have HH:∀{ρ:Rho},H2 w ρ (OW h) aA 2:=H2.no (bf.hb W)
 refine go (R.le (m:=58 + 1) (by (first | decide | lia | omega))) (Gd w.params) (yn w.params) (L.tab W) (.cons ⟨d,rfl,rfl⟩ (.cons ⟨t,rfl⟩ .nil)) fun A' env h1 n1 as1 R1 esc p1 S1 E'=>?_
 have S1:SR w (bv []) (OW h) h.get? env h1 ww as1:=by refine aa (Eq.symm (DI w.params)) ?_; exact S1
 have esc:env.scope=bp w.params 711:=esc
 show wpAny _ _ (execs (al w.params 711) env) _ _ _
 rw [xN]
 apply bc;intro ng
 obtain ⟨i1,i2,i3⟩:=IN w.params
 apply ng;clear ng
 refine wpAny_execs_cons (wpAny_For (ND i3 i2 (oy HH esc i1 (R1.le (m:=12 + 2) (by (first | decide | lia | omega))) S1 fun V h2 as2 n2 S2 p2 dv=>?_)) fun x=>rfl)
 have S2:SR w (bv []) (OW h) h.get? env h2 ww [d,t1,t2,t3]:=by
  have e:=p1.eq S1.sz
  rw [e] at S1 p2
  exact S1.same S2 p2 rfl▸S2
 apply bc;intro ng
 obtain ⟨x,ex,rfl⟩:=dv
 have:as2[0]? = some d:=p2.get (p1.get rfl)
 rw [this] at ex; cases ex
 obtain ⟨ep,D⟩:=L.at (w:=w)
 apply ng;clear ng
 refine ⟨d,_,rfl,L.d.le (S2.kp d),?_⟩
 have S2b:=S2.stay (h':=h2.push { cls:=.type "dict_items",data:=.fields #[.ref d] }) fun zw zw e=>Heap.get?_push_of_some _ e
 have hv:(h2.push { cls:=.type "dict_items",data:=.fields #[.ref d] }).IsItemsView h2.objs.size d:=⟨_,Heap.get?_push_size _ rfl,rfl,rfl⟩
 show wpAny _ _ _ _ _ ⟨h2.push _,gs,dr,n2,os⟩
 generalize h2.objs.size=va at hv
 generalize h2.push { cls:=.type "dict_items",data:=.fields #[.ref d] }=h2 at S2b hv
 refine wpAny_pyIter_items (s:=⟨h2,gs,dr,n2,os⟩) hv (D h2 S2b.kp) ?_
 have S3:=S2b.stay (h':=h2.push { cls:=.type "dict_itemiterator",data:=.fields #[.none,.bool false,.ref d,.int 0 0,.int 3 0,.int ep 0,.none,.none] }) fun zw zw e=>Heap.get?_push_of_some _ e
 have gi:h.get? h2.objs.size=none:=by
  induction qq:h.get? h2.objs.size with
  | none=>rfl
  | some y=>exact absurd (Heap.lt_size (S2b.kp _ _ qq)) (Nat.lt_irrefl _)
 have off:jr [h2.objs.size] env.locals ww.ob [d,t1,t2,t3]:=fun b m=>by
  refine aa (List.mem_singleton.mp m) ?_
  apply bc;intro ng
  obtain ⟨f,N,_⟩:=S2b.lc
  apply ng;clear ng
  exact ⟨Nat.ne_of_gt N.lt,fun i o e ow e'=>absurd ((S2b.ob i o _ e e').1.lt ow) (Nat.lt_irrefl _)⟩
 apply bc;intro ng
 obtain ⟨g1,g2⟩:=Ei w.params
 apply ng;clear ng
 refine FV R1 (NxP.items (kvs:=[(97,.ref t1),(98,.ref t2),(99,.ref t3)]) D) ⟨_,_,Heap.get?_push_size _ rfl⟩ gi off S3 ?_ ?_
 ·rintro i G' h5 n5 V hi zq22 le S5 T E1 E2 qT
  apply bc;intro ng
  obtain ⟨a,k,v,t',rfl,-,hk,tp⟩:=zq22
  have hi:i < 3:=hi
  have ek:k=CI i/\∃tj,[d,t1,t2,t3][1 + i]? = some tj/\v = .ref tj:=by
   match i,hi,hk with
   | 0,_,hk=>cases hk; exact ⟨rfl,_,rfl,rfl⟩
   | 1,_,hk=>cases hk; exact ⟨rfl,_,rfl,rfl⟩
   | 2,_,hk=>cases hk; exact ⟨rfl,_,rfl,rfl⟩
  obtain ⟨rfl,tj,ej,rfl⟩:=ek
  apply ng;clear ng
  have y:(Kb w.params i).ok (bv []) _:=cV (jD (ρ:=bv []) (K9 w.params i hi))
  unfold Kb at y
  have RR:Room A' (28 + 2):=R1.le (by (first | decide | lia | omega))
  refine assign_Tuple_tuple (s:=⟨h5,gs,dr,n5,os⟩) R1.hd tp (by refine aa ((gb g1).1) (aa g2 ?_); rfl) (gD g1) fun h6 hx=>?_
  refine eN (HH.run 28) RR (vs:=[.int (.c (CI i)),.loc (1 + i)]) g1 (by refine aa esc ?_; exact y) (S5.stayX hx) (.cons ⟨t',rfl⟩ (.cons ⟨tj,ej,rfl⟩ .nil)) fun s7 h7 as7 n7 y7 S7 p7=>?_
  rw [<- esc] at y7
  refine cj (HH.run 28) RR y7 S7 fun fl F s8 h8 as8 n8 y8 S8 p8 df=>?_
  apply bc;intro ng
  obtain ⟨l0,l,z1,z2,z3,z4⟩:=y8
  apply ng;clear ng
  have S9:=(S8.pcs (pc:=[]) fun zw m=>(nomatch m)).re (s':=ww) [0,1,2,3] z3 z4
  rw [tP (as:=[d,t1,t2,t3]) rfl (p7.trans p8) rfl] at S9
  refine qT F h8 n8 ?_ S9
  induction fl with
  | nx=>exact .inl df
  | ct=>exact .inr df
  | rt v=>exact ap z1
  | bk=>exact ap z1
 ·intro h5 n5 S5
  exact wpAny_execs_nil (q h5 n5 S5.kp)
end
section
open AutoSeq1 (wpAny_loadPart')
set_option tactic.hygienic true
theorem Na {M:Model} {A:Around} {f:List (Code×Pos)->Bool} {Q:Bool->Shared->Prop} {E E2:Value->Shared->Prop} {s:Shared} (q:∀b,Q b s):wpAny M A stack (fun st s=>wpAny M A (pure (f st)) Q E s) E2 s:=wpAny_stack_any fun st=>wpAny_pure (q _)
theorem qs (l:Addr) (items:Array Value) (n:Nat) (dct:Option Addr) (sl:Array (Option Value)) :
  Meets (Builtin.«enumerate.__new__» ⟨[.type "enumerate",.ref l],[]⟩) (fun zw R s=>s.heap.get? l=some { cls:=.type "tuple",dict:=dct,data:=.seq items n,slots:=sl }/\
   R (.ok (.ret (.ref (s.heap.push { cls:=.type "tuple_iterator",data:=.fields #[.ref l,.int 0 0] }).objs.size)))
    { s with heap:=(s.heap.push { cls:=.type "tuple_iterator",data:=.fields #[.ref l,.int 0 0] }).push { cls:=.type "enumerate",data:=.fields #[.none,.bool false,.ref s.heap.objs.size,rawInt 0,.none,.none] } }) :=
 .of_wp fun prog w A R s h=>by
  obtain ⟨hp,g,d,tk,os⟩:=s; obtain ⟨hl,h⟩:=h
  have hsub:=sub_enumerate
  have hL:Heap.IsTuple (Shared.heap ⟨hp,g,d,tk,os⟩) l items:=⟨_,hl,rfl,n,rfl⟩
  wp_walk using wpAny_loadPart' hl
  refine Na fun b=>?_
  cases b
  ·wp_walk using wpAny_loadPart' hl,wpAny_pyIter_tuple hL
   exact ⟨_,rfl,h⟩
  ·wp_walk using wpAny_loadPart' hl,wpAny_pyIter_tuple hL
   exact ⟨_,rfl,h⟩
set_option tactic.hygienic false
section
variable {prog:Program} {w:World} {A:Around} {E:Value->Shared->Prop} {s:Shared}
theorem mz {l:Addr} {items:Array Value} {Q:Value->Shared->Prop} (hL:IsTup s.heap l items)
  (h:∀h',IsEnum h' (s.heap.objs.size + 1) s.heap.objs.size 0 .none->h'.IsTupleIter s.heap.objs.size l 0->(∀b o,s.heap.get? b=some o->h'.get? b=some o)->Q (.ref (s.heap.objs.size + 1)) { s with heap:=h' }) :
  wpAny (model prog w) A (call (.type "enumerate") [.ref l]) Q E s:=by
 apply bc;intro ng
 obtain ⟨⟨c,dct,dt,sl⟩,hl,hc,n,hd⟩:=hL
 replace hc:c = .type "tuple":=hc
 replace hd:dt = .seq items n:=hd
 subst hc hd
 apply ng;clear ng
 refine callType_new F.called_enumerate (by decide) (F.typeCall_enumerate_1 _) (F.newCall_enumerate_1 _) (fun obj=>F.args_object_init_2 obj _) F.entry_enumerate_new
  (qs l items n dct sl) ⟨hl,?_⟩
 have hz:(s.heap.push { cls:=.type "tuple_iterator",data:=.fields #[.ref l,.int 0 0] }).objs.size=s.heap.objs.size + 1:=Heap.size_push ..
 show _/\_
 refine aa hz ?_
 have he:IsEnum ((s.heap.push { cls:=.type "tuple_iterator",data:=.fields #[.ref l,.int 0 0] }).push
   { cls:=.type "enumerate",data:=.fields #[.none,.bool false,.ref s.heap.objs.size,rawInt 0,.none,.none] }) (s.heap.objs.size + 1) s.heap.objs.size 0 .none:=by
  have:=Heap.get?_push_size (s.heap.push { cls:=.type "tuple_iterator",data:=.fields #[.ref l,.int 0 0] })
   (o:={ cls:=.type "enumerate",data:=.fields #[.none,.bool false,.ref s.heap.objs.size,rawInt 0,.none,.none] }) rfl
  rw [hz] at this; exact this
 exact ⟨⟨_,he,rfl⟩,h _ he ⟨_,Heap.get?_push_of_some _ (Heap.get?_push_size _ rfl),rfl,rfl⟩ fun b o x=>Heap.get?_push_of_some _ (Heap.get?_push_of_some _ x)⟩
theorem qL {it t:Addr} {i:Nat} {items:Array Value} {Q:Value->Shared->Prop} (hh:A.handled=none) (hit:s.heap.IsTupleIter it t i) (ht:s.heap.IsTuple t items) (hx:items[i]? = none)
  (hE:∀h' e,Heap.ExtBut it s.heap h'->(∃o,h'.get? e=some o/\o.cls = .type "StopIteration")->E (.ref e) { s with heap:=h' }) :
  wpAny (model prog w) A (Builtin.SmallTypes.nextOf (.ref it)) Q E s:=by
 apply bc;intro ng
 obtain ⟨o,ho,hc,hd⟩:=id hit
 obtain ⟨ol,hol,_,nl,hdl⟩:=ht
 apply ng;clear ng
 unfold Builtin.SmallTypes.nextOf
 refine wpAny_bind (wpAny_callSpecial?_slot (name:=Str.ofString "__next__") hit.typeIs F.slot_tuple_iterator_next
  (wpAny_call_entry F.slot_tuple_iterator_next hit.typeIs F.entry_tuple_iterator_next ?_ (F.args_tuple_iterator_next_1 _)))
 show wpAny _ _ (field (.ref it) 0 >>= _) _ _ s
 refine wpAny_bind (wpAny_field ho hd (x:=.ref t) rfl ?_)
 show wpAny _ _ (if (Value.ref t == Value.none)=true then _ else _) _ _ s
 refine aa (if_neg (show ¬((Value.ref t == Value.none)=true) from Bool.false_ne_true)) ?_
 show wpAny _ _ (field (.ref it) 1 >>= _) _ _ s
 refine wpAny_bind (wpAny_field ho hd (x:=.int i 0) rfl ?_)
 show wpAny _ _ (seqItems? (.ref t) >>= _) _ _ s
 refine wpAny_bind (wpAny_seqItems hol hdl ?_)
 simp only [Int.toNat_natCast,hx]
 refine wpAny_bind (wpAny_rule (wpAny_bind (wpAny_setField ho hd (by simp) ?_)))
 show wpAny _ _ (newExc (.type "StopIteration") [] >>= _) _ _ _
 refine wpAny_bind ?_
 simp only [newExc,newTuple]
 refine wpAny_bind (wpAny_newObj_type ?_ (by size_fits))
 refine wpAny_bind (m:=firstArgMember _ _) (wpAny_of_eq (a:=Value.none) (by first | rfl | (simp only [firstArgMember]; rfl)) ?_)
 refine wpAny_newObj_type ?_ (by size_fits)
 simp only [raiseNew]
 refine wpAny_bind (wpAny_handled ?_)
 first | refine aa (show A.in1.handled=none from hh) ?_ | exact aa hh rfl
 refine wpAny_bind (wpAny_pure (wpAny_throw ?_))
 exact hE _ _ (((Heap.SameBut.update ..).extBut.push _).push _) ⟨_,Heap.get?_push_size _ rfl,rfl⟩
theorem vN {A:Around} (hh:A.handled=none) (it l:Addr):Draws prog w A it [it,l] 0 (fun zw zw=>False) (fun i h=>i=0/\h.IsTupleIter it l 0/\h.IsTuple l #[]) where
 live:=fun zw zw st=>let ⟨_,⟨o,ho,_⟩,_⟩:=st; ⟨o,ho⟩
 frame:=fun i h h' st hk=>by
  apply bc;intro ng
  obtain ⟨e,⟨o,ho,z⟩,⟨o2,ho2,z2⟩⟩:=st
  apply ng;clear ng
  exact ⟨e,⟨o,hk it (by simp) _ ho,z⟩,⟨o2,hk l (by simp) _ ho2,z2⟩⟩
 item:=fun i s Q E hi=>absurd hi (Nat.not_lt_zero i)
 done:=fun s Q E st hE=>qL hh st.2.1 st.2.2 rfl hE
end
end
noncomputable def qe (P:Params):Stmt:=(al P 725).getD 1 (.Pass default)
noncomputable def NO (a b c:Value):List AV:=[.glb (.ref 834),.glb a,.glb b,.glb c]
noncomputable def zL (a b c:Value):List (Str×AV):=[(S' "program",.glb (.ref 834)),(S' "kerns",.glb a),(S' "chars",.glb b),(S' "boundary",.glb c)]
theorem Ev (P:Params):dL P 725=some (aZ P 725):=by kernel_rfl
theorem wC (P:Params) (a b c:Value):aQ (aZ P 725) (NO a b c)=some (zL a b c):=by kernel_rfl
theorem Fn (P:Params) (a b c:Value):(⟨(zL a b c).reverse.filter (fun x=>decide ((aZ P 725).scope.names.lookup x.1=some .local)),(ae (aZ P 725).scope.names).zip ((List.range (ae (aZ P 725).scope.names).length).map (([]:List AO).length + ·)),[]++(ae (aZ P 725).scope.names).map (fun n=>.cell ((zL a b c).reverse.lookup n)),[]⟩:St)=⟨(zL a b c).reverse,[],[],[]⟩:=by kernel_rfl
theorem vy (P:Params):al P 725=(al P 725).take 1++[.For (.Tuple (DU (cy (qe P))) (JH (cy (qe P))) (Ib (cy (qe P)))) (.Call (.Name (bj (ax (aR (qe P)))) (aS (ax (aR (qe P))))) [bq (aR (qe P))] [] (cg (aR (qe P)))) (bg (qe P)) [] (qe P).pos]:=by kernel_rfl
noncomputable def MP (P:Params) (a b c:Value):Tr:=cD P aA 12 (bp P 725) ((al P 725).take 1) ⟨(zL a b c).reverse,[],[],[]⟩
theorem Lq (P:Params) (a b c:Value):MP P a b c = .leaf .nx ⟨(S' "many",.int (.c 0))::(zL a b c).reverse,[],[.fz (.tup [])],[]⟩:=by kernel_rfl
noncomputable def Cy (a b c:Value):St:=⟨(S' "many",.int (.c 0))::(zL a b c).reverse,[],[.fz (.tup [])],[]⟩
theorem La (P:Params) (a b c:Value):bB P aA 12 (bp P 725) (.Name (bj (ax (aR (qe P)))) (aS (ax (aR (qe P))))) (Cy a b c) = .leaf (.rt (.glb (.type "enumerate"))) (Cy a b c):=by kernel_rfl
theorem K4 (P:Params) (a b c:Value):bB P aA 12 (bp P 725) (bq (aR (qe P))) (Cy a b c) = .leaf (.rt (.glb (.ref 834))) (Cy a b c):=by kernel_rfl
theorem J3 (P:Params):aK (bq (aR (qe P)))=false:=by kernel_rfl
theorem HN (P:Params):wo P (.glb (.ref 834))=some []:=by kernel_rfl
section
variable {w:World} {A:Around} {gs:Array GenState} {dr:Drawn} {os:OsState} {h:Heap} {n:Nat}
theorem uA (W:Wd w h) {a b c:Value} (R:Room A 60) {Q:Value->Shared->Prop} {E:Value->Shared->Prop}
  (q:∀h' n',h.StaysIn h'->Q .none ⟨h',gs,dr,n',os⟩):wpAny (model pr w) A (call (.ref 725) [.ref 834,a,b,c]) Q E ⟨h,gs,dr,n,os⟩:=by
 have HH:∀{ρ:Rho},H2 w ρ (OW h) aA 2:=H2.no (bf.hb W)
 have C0:Co w (bv []) (OW h) h.get? h [] [] []:=Co.all W (fun zw zw e=>e) .nil
 refine go (R.le (m:=58 + 1) (by (first | decide | lia | omega))) (Ev w.params) (wC w.params a b c) C0 (.cons rfl (.cons rfl (.cons rfl (.cons rfl .nil)))) fun A' env h1 n1 as1 R1 esc p1 S1 E'=>?_
 have S1:SR w (bv []) (OW h) h.get? env h1 ⟨(zL a b c).reverse,[],[],[]⟩ as1:=by rw [<- Fn w.params]; exact S1
 have esc:env.scope=bp w.params 725:=esc
 have RR:Room A' (12 + 2):=R1.le (by (first | decide | lia | omega))
 show wpAny _ _ (execs (al w.params 725) env) _ _ _
 rw [vy]
 refine aH (cj (post:=fun f s=>f = .nx/\s=Cy a b c) (k:=fun f s=>.leaf f { s with pc:=[] }) (HH.run 12) RR (by rw [esc]; have:=Lq w.params a b c; unfold MP cD at this; rw [this]; exact ⟨rfl,rfl⟩) S1 fun fl F s2 h2 as2 n2 y2 S2 p2 df=>?_)
 apply bc;intro ng
 obtain ⟨y3,y4⟩:=y2
 apply ng;clear ng
 subst y3
 have df:F = .next:=df
 subst df
 have S2:=S2.pcs (pc:=[]) fun zw m=>(nomatch m)
 rw [y4] at S2
 refine wpAny_execs_cons (wpAny_For (m4 (J3 w.params) (oy HH esc (La w.params a b c) RR S2 fun V h3 as3 n3 S3 p3 dv=>⟨dv,oy HH esc (K4 w.params a b c) RR S3 fun V h4 as4 n4 S4 p4 dv=>?_⟩)) fun x=>rfl)
 have dv:V=_:=dv
 subst dv
 apply bc;intro ng
 obtain ⟨x,o,Vs,ex,e2,e3,⟨m,e4⟩,ev⟩:=jY (HN w.params)
 apply ng;clear ng
 have ex:AV.glb (.ref 834)=AV.glb (.ref x):=ex
 injection ex with ex; injection ex with ex; subst ex
 have v0:Vs = []:=by cases Vs with | nil=>rfl | cons=>cases ev
 subst v0
 have tp:IsTup h4 834 #[]:=⟨o,S4.k _ _ e2,e3,m,e4⟩
 refine mz (s:=⟨h4,gs,dr,n4,os⟩) tp fun h5 he hit k5=>?_
 have S5:=S4.stay k5
 have gi:h.get? h4.objs.size=none:=by
  induction qq:h.get? h4.objs.size with
  | none=>rfl
  | some y=>exact absurd (Heap.lt_size (S4.kp _ _ qq)) (Nat.lt_irrefl _)
 have off:jr [h4.objs.size] env.locals (Cy a b c).ob as4:=fun b' m=>by
  refine aa (List.mem_singleton.mp m) ?_
  apply bc;intro ng
  obtain ⟨f,N,_⟩:=S4.lc
  apply ng;clear ng
  exact ⟨Nat.ne_of_gt N.lt,fun i o e ow e'=>absurd ((S4.ob i o _ e e').1.lt ow) (Nat.lt_irrefl _)⟩
 refine wpAny_pyIter_enum (s:=⟨h5,gs,dr,n4,os⟩) he ?_
 refine codeAny_forLoop_any (fun zw st=>st=⟨h5,gs,dr,n4,os⟩) (fun k st I=>?_) 0 rfl
 subst I
 have tp5:Heap.IsTuple h5 834 #[]:=let ⟨o,e,z⟩:=tp; ⟨o,k5 _ _ e,z⟩
 refine wpAny_pyNext_enum_endD (s:=⟨h5,gs,dr,n4,os⟩) (vN (A:=A'.in1) RR.hd h4.objs.size 834) he ⟨rfl,hit,tp5⟩ fun h6 he6=>?_
 have S6:=S5.off (l:=[h4.objs.size]) (fun b' m=>by refine aa (List.mem_singleton.mp m) ?_; exact gi) off (fun b' x m e=>he6 b' x (fun qq=>m (qq▸.head _)) e)
 exact wpAny_execs_nil (wpAny_execs_nil (q h6 n4 S6.kp))
end
noncomputable def Jp (ps:List (Int×AV)):Option (Nat×Nat×Nat):=match ps with
 | []=>none
 | a::r=>a.2.l?.bind fun i=>(d9 r).bind fun p=>(aq p.1.2.l? p.2.2.l?).map fun q=>(i,q)
noncomputable def NF:List AO:=[.dc [(97,.loc 1),(98,.loc 2),(99,.loc 3)],.tup (ny [5,7,2,0,0,0]),.tup (ny [11,3,0,0,0,0]),.tup (ny [4,1,9,0,0,0])]
noncomputable def Bq (ob:List AO) (i:Nat):Bool:=(((ob[i]?).bind AO.dc?).bind Jp).any fun j=>(cH (eX [i,j.1,j.2.1,j.2.2]) ob [i,j.1,j.2.1,j.2.2] NF).any fun l=>l.all wV
noncomputable def FB (v:AV):Bool:=v.c?.any fun n=>decide (n=0)
noncomputable def Dv (v:AV):Bool:=f8 v (.ref 834)
noncomputable def DE:Hk:=fun a args ob=>((be args).bind AV.l?).bind fun i=>if a == 718 && Bq ob i then some ([],.none,ob) else none
noncomputable def Fe:Hk:=fun a args ob=>(d9 args).bind fun p=>p.1.l?.bind fun i=>if a == 711 && Bq ob i && FB p.2 then some ([],.none,ob) else none
noncomputable def C6:Hk:=fun a args ob=>(args[0]?).bind fun v=>if a == 725 && Dv v && Nat.beq args.length 4 then some ([],.none,ob) else none
noncomputable def Ff:Hk:=fun a args ob=>match DE a args ob with | some r=>some r | none=>(match Fe a args ob with | some r=>some r | none=>C6 a args ob)
theorem vW {v:AV} (h:FB v=true):v = .int (.c 0):=by
 obtain ⟨n,e,h⟩:=cw h
 exact aa (je e) (aa (of_decide_eq_true h) rfl)
section
variable {w:World} {ρ:Rho} {O:Opq} {G:Gr} {h:Heap} {ob:List AO} {pc:List (CE×Bool)} {as:List Addr}
theorem pE {i:Nat} (e:Bq ob i=true) (S:Co w ρ O G h ob pc as) {d:Addr} (ed:as[i]? = some d):∃t1 t2 t3,Let3 h d t1 t2 t3:=by
 apply bc;intro ng
 obtain ⟨j,e1,e⟩:=cw e
 obtain ⟨l,e2,e3⟩:=cw e
 apply ng;clear ng
 have T:=jy (dw rfl) S.sz (fun i o a e e'=>(S.ob i o a e e').1) e2 (gf e3) rfl
 have ti:∀{x:Addr} {ns:List Int},aO ρ ([i,j.1,j.2.1,j.2.2].map fun j=>as.getD j 0) h.get? x (.tup (ny ns))->hM h.get? x ns:=by
  intro x ns ⟨Vs,d1,a1⟩
  refine ⟨Vs,?_,a1⟩
  clear a1
  induction ns generalizing Vs with
  | nil=>refine aa d1.n ?_; exact .nil
  | cons m r ih =>
   apply bc;intro ng
   obtain ⟨b,m',hV,⟨t,ht⟩,d1⟩:=d1.c
   apply ng;clear ng
   refine aa hV (aa ht ?_)
   exact .cons _ _ (ih _ d1)
 refine ⟨as.getD j.1 0,as.getD j.2.1 0,as.getD j.2.2 0,?_,ti T.tl.hd,ti T.tl.tl.hd,ti T.tl.tl.tl.hd⟩
 apply bc;intro ng
 obtain ⟨kvs,k,k2⟩:=T.hd
 obtain ⟨b0,r,hk,c0,k⟩:=k.c
 obtain ⟨b1,b2,hr,c1,c2⟩:=k.two
 apply ng;clear ng
 rw [hk,hr,rq c0 rfl,rq c1 rfl,rq c2 rfl] at k2
 exact bG ed▸(show fu h.get? (as.getD i 0) [(97,.ref (as.getD j.1 0)),(98,.ref (as.getD j.2.1 0)),(99,.ref (as.getD j.2.2 0))] from k2)
theorem oY {α:Type} {l:List α} {n:Nat} (h:l.length=n + 1):∃a r,l=a::r/\r.length=n:=by
 induction l using List.casesOn with
 | nil=>cases h
 | cons a r=>exact ⟨a,r,rfl,Nat.succ.inj h⟩
theorem vR:ay w ρ O Ff 60:=by
 refine ay.or (k1:=DE) ?_ (ay.or (k1:=Fe) (k2:=C6) ?_ ?_)
 ·intro f args ob ces v ob' e hcs A gs dr os G h pc n as Us Q Er R S da q
  apply bc;intro ng
  obtain ⟨i,ei,e⟩:=az e
  obtain ⟨u,eu,ei⟩:=az ei
  obtain ⟨hc,e⟩:=cU e
  cases e
  rw [ba eu,bN ei] at da
  obtain ⟨b,hU,d,ed,hd⟩:=da.one
  obtain ⟨t1,t2,t3,L⟩:=pE (au hc) S ed
  apply ng;clear ng
  refine aa hU (aa hd (aa (aD (ag hc)) ?_))
  exact mR S.wd L R fun h' n' k=>q .none h' as n' (S.stay k) .refl rfl
 ·intro f args ob ces v ob' e hcs A gs dr os G h pc n as Us Q Er R S da q
  apply bc;intro ng
  obtain ⟨p,ep,e⟩:=az e
  obtain ⟨i,ei,e⟩:=az e
  obtain ⟨hc,e⟩:=cU e
  cases e
  rw [cq ep,bN ei] at da
  obtain ⟨b,b',hU,⟨d,ed,hd⟩,d2⟩:=da.two
  obtain ⟨t1,t2,t3,L⟩:=pE (au (ag hc)) S ed
  rw [vW (au hc)] at d2
  obtain ⟨t,ht⟩:=d2
  apply ng;clear ng
  refine aa hU (aa hd (aa ht (aa (aD (ag (ag hc))) ?_)))
  exact qf S.wd L R fun h' n' k=>q .none h' as n' (S.stay k) .refl rfl
 ·intro f args ob ces v ob' e hcs A gs dr os G h pc n as Us Q Er R S da q
  apply bc;intro ng
  obtain ⟨u,eu,e⟩:=az e
  obtain ⟨hc,e⟩:=cU e
  cases e
  have l4:=da.len.symm.trans (Nat.eq_of_beq_eq_true (au hc))
  obtain ⟨V,eV,d⟩:=da.get eu
  apply ng;clear ng
  rw [gx (au (ag hc))] at d
  refine aa (aD (ag (ag hc))) ?_
  apply bc;intro ng
  obtain ⟨x,r1,e1,l3⟩:=oY l4
  obtain ⟨a,r2,e2,l2⟩:=oY l3
  obtain ⟨b,r3,e3,l1⟩:=oY l2
  obtain ⟨c,r4,e4,l0⟩:=oY l1
  rw [List.length_eq_zero_iff.mp l0] at e4
  rw [e4] at e3; rw [e3] at e2; rw [e2] at e1
  rw [e1] at eV
  rw [e1,aF eV,show V=_ from d] at ng
  exact ng (uA S.wd R fun h' n' k=>q .none h' as n' (S.stay k) .refl rfl)
end
section
variable {w:World} {ρ:Rho} {O:Opq} {G:Gr} {h h':Heap} {ob:List AO} {pc:List (CE×Bool)} {as:List Addr}
theorem Co.take (S:Co w ρ O G h ob pc as) {a:Addr} {ao:AO} (f:G a=none) (o:∀(i:Nat) o,ob[i]? = some o->o.own=true->as[i]?≠some a) (y:aC ρ O (as++[a]) h a ao):Co w ρ O G h (ob++[ao]) pc (as++[a]):=by
 refine ⟨S.bs,S.kp,S.og,by simp [S.sz],fun i x b e e'=>?_,fun i j x x' b e1 e2 w1 w2 e3 e4=>?_,S.pc⟩
 ·rcases bT S.sz i x b e e' with ⟨f1,f2⟩ | ⟨f1,rfl,rfl⟩
  ·obtain ⟨z1,z2⟩:=S.ob i x b f1 f2
   exact ⟨z1.keep ⟨_,rfl⟩ (fun zw x e=>e),z2⟩
  ·exact ⟨y,fun zw=>f⟩
 ·rcases bT S.sz i x b e1 e3 with ⟨f1,f2⟩ | ⟨f1,rfl,rfl⟩
  ·rcases bT S.sz j x' b e2 e4 with ⟨g1,g2⟩ | ⟨g1,rfl,rfl⟩
   ·exact S.nd i j x x' b f1 g1 w1 w2 f2 g2
   ·exact absurd f2 (o i x f1 w1)
  ·rcases bT S.sz j x' _ e2 e4 with ⟨g1,g2⟩ | ⟨g1,rfl,-⟩
   ·exact absurd g2 (o j x' g1 w2)
   ·(first | lia | omega)
theorem Co.chg (S:Co w ρ O G h ob pc as) {i:Nat} {o o' ao:AO} {y z:Addr} (eo:ob[i]? = some o) (ow:o.own=true) (ow':o'.own=true) (ea:as[i]? = some y) (k:∀b x,b≠y->h.get? b=some x->h'.get? b=some x) (ho:aC ρ O as h' y o') (hz:h.get? z=none) (hn:aC ρ O (as++[z]) h' z ao):Co w ρ O G h' (ob.set i o'++[ao]) pc (as++[z]):=by
 have S2:=S.set1 eo ow ea k ho
 have gz:G z=none:=by
  induction q:G z with
  | none=>rfl
  | some x=>have:=S.kp _ _ q; rw [hz] at this; exact ap this
 refine S2.take gz (fun j oj e1 e2 e3=>?_) hn
 have hi:i < ob.length:=(List.getElem?_eq_some_iff.mp eo).1
 by_cases hij:i=j
 ·subst hij
  rw [ea] at e3; cases e3
  obtain ⟨x,ex⟩:=((S.ob i o y eo ea).1).ex ow
  rw [hz] at ex; exact ap ex
 ·rw [List.getElem?_set_ne hij] at e1
  obtain ⟨x,ex⟩:=((S.ob j oj z e1 e3).1).ex e2
  rw [hz] at ex; exact ap ex
theorem Co.bsOn2 (S:Co w ρ O G h ob pc as) {y:Addr} (g:G y=none):gZ w (G1 h y):=by
 obtain ⟨hb,W,kb⟩:=S.bs
 refine ⟨hb,W,fun a o e=>?_⟩
 have:=kb a o e
 unfold G1
 refine aa (if_neg (fun q=>by rw [q,g] at this; cases this)) ?_
 exact S.kp _ _ this
end
noncomputable def OS (l:Addr) (g:Gr):Opq:=⟨g,fun k a=>k=7/\a=l,fun a h=>by omega,fun a h=>by omega⟩
noncomputable def F3:Option AO->Bool | some (.opq k)=>k == 7 | _=>false
noncomputable def Me:Hk:=fun a args ob=>((be args).bind AV.l?).bind fun i=>if a == 850 && F3 ob[i]? then some ([],.loc ob.length,ob++[.lst [.int (.v 0),.int (.c 0)]]) else none
noncomputable def Im (x y:Nat) (args:List AV) (ob:List AO):Option (Nat×Nat):=(d9 args).bind fun p=>(aq p.1.l? p.2.l?).bind fun i=>(lI ob i.1).bind fun q=>((ob[i.2]?).bind AO.rf?).bind fun k=>if (q.1.same (.v x) && q.2.same (.v y)) && k == 1 then some i else none
noncomputable def Mg (x y u v:Nat):Hk:=fun a args ob=>(Im x y args ob).bind fun i=>if a == 878 then some ([.le (.c 0) (.v y),.le (.v y) (.c 990000)],.loc ob.length,ob.set i.1 (.lst [.int (.v u),.int (.v v)])++[.rf 2]) else none
noncomputable def MO (x y b e:Nat):Hk:=fun a args ob=>(Im x y args ob).bind fun i=>if a == 892 then some ([.le (.c 0) (.v y),.le (.v y) (.c 990000)],.loc ob.length,ob.set i.1 (.lst [.any,.any])++[.tup [.int (.v b),.int (.v e)]]) else none
noncomputable def LL:Hk:=fun a args ob=>((be args).bind AV.l?).bind fun j=>((ob[j]?).bind AO.rf?).bind fun k=>if a == 899 && k == 1 then some ([],.loc ob.length,ob++[.rf 5]) else none
section
variable {w:World} {ρ:Rho} {O:Opq} {g:Gr} {F:List Addr} {nds:List Nd}
theorem JG {G:Gr} {h:Heap} {ob:List AO} {pc:List (CE×Bool)} {as:List Addr} (S:Co w ρ O G h ob pc as) {z:Addr} (hz:h.get? z=none):G z=none:=by
 induction q:G z with
 | none=>rfl
 | some x=>exact ap (hz.symm.trans (S.kp _ _ q))
theorem Co.takeN {G:Gr} {h h':Heap} {ob:List AO} {pc:List (CE×Bool)} {as:List Addr} (S:Co w ρ O G h ob pc as) (k:h.StaysIn h') {z:Addr} {ao:AO} (hz:h.get? z=none) (y:aC ρ O (as++[z]) h' z ao):Co w ρ O G h' (ob++[ao]) pc (as++[z]) :=
 (S.stay k).take (JG S hz) (fun i o e1 e2 e3=>let ⟨_,ex⟩:=((S.ob i o z e1 e3).1).ex e2; ap (hz.symm.trans ex)) y
theorem Bg {l:Addr} {Vs:List Value} {ns:List Int} (L:At g l (.lst Vs)) (I:IntsAre Vs ns) (hz:Vs.length<=1000) (hv:ρ.v 0=fA ns):ay w ρ (OS l g) Me 14:=by
 intro f args ob ces v ob' e hcs A gs dr os G h pc n as Us Q Er R S da q
 apply bc;intro ng
 obtain ⟨i,ei,e⟩:=az e
 obtain ⟨u,eu,ei⟩:=az ei
 obtain ⟨hc,e⟩:=cU e
 cases e
 rw [ba eu,bN ei] at da
 obtain ⟨b,hU,x,ex,hx⟩:=da.one
 have hl:x=l:=by
  have hc:=au hc
  induction eo:ob[i]? with
  | none=>rw [eo] at hc; exact bH hc
  | some o =>
   rw [eo] at hc
   induction o using AO.casesOn with
   | opq k=>exact ((S.ob i _ x eo ex).1.2).2
   | _=>exact bH hc
 rw [hU,hx,hl,aD (ag hc)] at ng
 exact ng (tK S.wd (L.le fun o e=>S.kp _ _ (S.og _ _ e)) I hz R fun h' n' z Ws k hzn ha hi=>q _ h' _ n' (S.takeN k hzn ⟨Ws,eJ hi hv rfl,ha⟩) ⟨_,rfl⟩ ⟨z,by refine aa (Eq.symm S.sz) ?_; exact aY,rfl⟩)
theorem sT {x y:Nat} {args:List AV} {ob:List AO} {i:Nat×Nat} (e:Im x y args ob=some i) {G:Gr} {h:Heap} {pc:List (CE×Bool)} {as:List Addr} (S:Co w ρ O G h ob pc as) {Us:List Value} (da:All2 (Dn ρ as) args Us) :
  ∃a b Vs,Us = [.ref a,.ref b]/\as[i.1]? = some a/\ob[i.1]? = some (.lst [.int (.v x),.int (.v y)])/\At h.get? a (.lst Vs)/\IntsAre Vs [ρ.v x,ρ.v y]/\G a=none/\At h.get? b (.pl ((ρ.l 1).map ak))/\b≠a:=by
 apply bc;intro ng
 obtain ⟨p,ep,e⟩:=az e
 obtain ⟨j,ej,e⟩:=az e
 obtain ⟨q,e1,e⟩:=az e
 obtain ⟨k,e2,e⟩:=az e
 obtain ⟨hc,e⟩:=cU e
 rw [aF e] at ej e1 e2
 rw [show q=(.v x,.v y) from Prod.ext (IE.same_ok (ag (ag hc))) (IE.same_ok (au (ag hc)))] at e1
 rw [aD (au hc)] at e2
 rw [cq ep,bN (ah ej).1,bN (ah ej).2] at da
 obtain ⟨V,U,hU,⟨a,ea,hV⟩,b,eb,hW⟩:=da.two
 obtain ⟨eo,Vs,v1,v2,ga⟩:=nh e1 S ea
 obtain ⟨o,f1,f2⟩:=az e2
 rw [mq f2] at f1
 rw [hV,hW] at hU
 exact ng ⟨a,b,Vs,hU,ea,eo,v1,v2,ga,(S.ob i.2 _ b f1 eb).1,fun z=>by
  have w:=S.nd i.1 i.2 _ _ a eo f1 rfl rfl ea (z▸eb)
  rw [w,f1] at eo
  exact AO.noConfusion (aF eo)⟩
theorem AT {x y u v:Nat} (hl:(ρ.l 1).length<=100) (h2:ρ.l 2=(fS (ρ.l 1).length (ρ.v x) (ρ.v y) (ρ.l 1) []).1) (hu:ρ.v u=(fS (ρ.l 1).length (ρ.v x) (ρ.v y) (ρ.l 1) []).2.1) (hv:ρ.v v=(fS (ρ.l 1).length (ρ.v x) (ρ.v y) (ρ.l 1) []).2.2):ay w ρ O (Mg x y u v) 60:=by
 intro f args ob ces va ob' e hcs A gs dr os G h pc n as Us Q Er R S da q
 apply bc;intro ng
 obtain ⟨i,e1,e⟩:=az e
 obtain ⟨hc,e⟩:=cU e
 cases e
 obtain ⟨a,b,Vs,hU,ea,eo,v1,v2,ga,I,hab⟩:=sT e1 S da
 rw [hU,aD hc] at ng
 exact ng (xC (Z:=ρ.l 1) (S.bsOn2 ga) v1 v2 I hab hl ⟨hcs _ (.head _),hcs _ (.tail _ (.head _))⟩ R fun h' n' z Ws kk w1 w2 hz w3 =>
  q _ h' _ n' (S.chg eo rfl rfl ea kk ⟨Ws,eJ w2 hu hv,w1⟩ hz (show At h'.get? z (.pl ((ρ.l 2).map ak)) by refine aa h2 ?_; exact w3)) ⟨_,rfl⟩ ⟨z,by refine aa (Eq.symm S.sz) ?_; exact aY,rfl⟩)
theorem Ax {x y b e:Nat} (hl:0 < (ρ.l 1).length/\(ρ.l 1).length<=100) (hF:F.length=3) (It:All2 (fun V nd=>∃x,V = .ref x/\bQ O.g F x nd/\nd.ok) ((ρ.l 1).map ak) nds) (hb:ρ.v b=bu (ρ.v x) (ρ.v y) (ρ.l 1).length) (he:ρ.v e=(fN (nds.map fun nd=>nd.k.run) 4 (bu (ρ.v x) (ρ.v y) (ρ.l 1).length).toNat:Nat)):ay w ρ O (MO x y b e) 60:=by
 intro f args ob ces va ob' ee hcs A gs dr os G h pc n as Us Q Er R S da q
 apply bc;intro ng
 obtain ⟨i,e1,ee⟩:=az ee
 obtain ⟨hc,ee⟩:=cU ee
 cases ee
 obtain ⟨a,b',Vs,hU,ea,eo,v1,v2,ga,I,hab⟩:=sT e1 S da
 rw [hU,aD hc] at ng
 have kg:bf O.g (G1 h a):=fun c o e=>(gT fun z=>ap (ga.symm.trans (z▸S.og _ _ e))).trans (S.kp _ _ (S.og _ _ e))
 exact ng (wu (Z:=ρ.l 1) (S.bsOn2 ga) v1 v2 I hab hl ⟨hcs _ (.head _),hcs _ (.tail _ (.head _))⟩ hF kg It R fun h' n' z Ws Ys kk w1 w2 hz w3 w4 =>
  q _ h' _ n' (S.chg eo rfl rfl ea kk ⟨Ws,(let ⟨_,_,e⟩:=jo w2; e▸.cons trivial (.cons trivial .nil)),w1⟩ hz ⟨Ys,eJ w4 hb he,w3⟩) ⟨_,rfl⟩ ⟨z,by refine aa (Eq.symm S.sz) ?_; exact aY,rfl⟩)
theorem Aj {ps:List (Nd×List Int)} (hF:F.length=3) (It:All2 (Cu O.g F) ((ρ.l 1).map ak) ps) (hl:(ps.flatMap (·.2)).length<=900) (h5:ρ.l 5=ps.flatMap (·.2)):ay w ρ O LL 60:=by
 intro f args ob ces va ob' ee hcs A gs dr os G h pc n as Us Q Er R S da q
 apply bc;intro ng
 obtain ⟨j,ej,ee⟩:=az ee
 obtain ⟨u,eu,ej⟩:=az ej
 obtain ⟨k,e2,ee⟩:=az ee
 obtain ⟨hc,ee⟩:=cU ee
 cases ee
 rw [ba eu,bN ej] at da
 obtain ⟨b,hU,b',eb,hx⟩:=da.one
 obtain ⟨o,f1,f2⟩:=az e2
 rw [mq f2,aD (au hc)] at f1
 rw [hU,hx,aD (ag hc)] at ng
 exact ng (sV (Z:=ρ.l 1) S.wd (S.ob j _ b' f1 eb).1 hF (fun c o e=>S.kp _ _ (S.og _ _ e)) It hl R fun h' n' z k hz w3 =>
  q _ h' _ n' (S.takeN k hz (show At h'.get? z (.pl ((ρ.l 5).map ak)) by refine aa h5 ?_; exact w3)) ⟨_,rfl⟩ ⟨z,by refine aa (Eq.symm S.sz) ?_; exact aY,rfl⟩)
end
noncomputable def dW (P:Params):List Stmt:=al P 904
noncomputable def fq (P:Params):Scope:=bp P 904
noncomputable def g9:List (Str×Nat):=[(S' "heap",1),(S' "font",2),(S' "orders",3),(S' "spots_told",4),(S' "begin",5)]
noncomputable def Ld:St:=⟨[(S' "script",.loc 0)],g9,[.opq 7,.cell none,.cell none,.cell none,.cell none,.cell none],[]⟩
noncomputable def Mt:Hk:=fun a args ob=>match Me a args ob with | some r=>some r | none=>Ff a args ob
noncomputable def sC (n:Nat):List AO:=[.ns [(S' "skew_char",.any),(S' "hyphen_char",.any),(S' "edge_start",.any),(S' "boundary",.any),(S' "kerns",.any),(S' "program",.any),(S' "chars",.loc (n + 2)),(S' "params",.any),(S' "check",.any),(S' "design",.any),(S' "size",.any),(S' "name",.any),(S' "number",.int (.c 1))],.inst 822 n,
 .dc [(97,.loc (n + 3)),(98,.loc (n + 4)),(99,.loc (n + 5))],.tup (ny [5,7,2,0,0,0]),.tup (ny [11,3,0,0,0,0]),.tup (ny [4,1,9,0,0,0])]
noncomputable def Nr (a b:AV):List AO:=[.dead,.cell (some (.loc 6)),.cell (some (.loc 8)),.cell none,.cell none,.cell none,.lst [a,b]]
noncomputable def Eu:St:=⟨[],g9,Nr (.int (.v 0)) (.int (.c 0))++sC 7,[]⟩
noncomputable def Hr (P:Params):VC:=(cD P Mt 40 (fq P) ((dW P).take 2) Ld).vc [0,1,2,3,4,5,6,22,23,32,15,18,21] .nx Eu
noncomputable def Ly (a b:AV):List AO:=[.dead,.cell (some (.loc 6)),.cell (some (.loc 8)),.cell (some (.int (.v 4))),.cell none,.cell none,.lst [a,b]]
noncomputable def mE:St:=⟨[(S' "mode",.int (.v 3))],g9,Ly (.int (.v 1)) (.int (.v 2))++sC 7,[]⟩
noncomputable def GV (P:Params):VC:=(cD P fX 20 (fq P) (((dW P).drop 2).take 1) Eu).vc [0,1,2,3,4,5,6,7,8,9,10,11,12] .nx mE
noncomputable def He:VC:=VC.ok [Ob1.ie (IE.v 0) (IE.v 0),Ob1.ie (IE.c 0) (IE.c 0),Ob1.ie (IE.c 1) (IE.c 1),Ob1.ie (IE.c 5) (IE.c 5),Ob1.ie (IE.c 7) (IE.c 7),Ob1.ie (IE.c 2) (IE.c 2),Ob1.ie (IE.c 0) (IE.c 0),Ob1.ie (IE.c 0) (IE.c 0),Ob1.ie (IE.c 0) (IE.c 0),Ob1.ie (IE.c 11) (IE.c 11),Ob1.ie (IE.c 3) (IE.c 3),Ob1.ie (IE.c 0) (IE.c 0),Ob1.ie (IE.c 0) (IE.c 0),Ob1.ie (IE.c 0) (IE.c 0),Ob1.ie (IE.c 0) (IE.c 0),Ob1.ie (IE.c 4) (IE.c 4),Ob1.ie (IE.c 1) (IE.c 1),Ob1.ie (IE.c 9) (IE.c 9),Ob1.ie (IE.c 0) (IE.c 0),Ob1.ie (IE.c 0) (IE.c 0),Ob1.ie (IE.c 0) (IE.c 0)]
theorem DS (P:Params):Hr P=He:=by kernel_rfl
noncomputable def J5:VC:=VC.req (CE.le (IE.c 0) (IE.add (IE.c 0) (IE.c 1))) (VC.req (CE.lt (IE.add (IE.c 0) (IE.c 1)) (IE.c 1000000)) (VC.br (CE.eq (IE.fn 30 (IE.fn 31 (IE.v 0) (IE.c 0) (IE.c 2)) (IE.add (IE.c 0) (IE.c 1)) (IE.c 2)) (IE.c 1)) (VC.ok [Ob1.ie (IE.c 4) (IE.v 4),Ob1.ie (IE.fn 31 (IE.fn 31 (IE.v 0) (IE.c 0) (IE.c 2)) (IE.add (IE.c 0) (IE.c 1)) (IE.c 2)) (IE.v 1),Ob1.ie (IE.add (IE.add (IE.c 0) (IE.c 1)) (IE.c 1)) (IE.v 2),Ob1.ie (IE.c 1) (IE.c 1),Ob1.ie (IE.c 5) (IE.c 5),Ob1.ie (IE.c 7) (IE.c 7),Ob1.ie (IE.c 2) (IE.c 2),Ob1.ie (IE.c 0) (IE.c 0),Ob1.ie (IE.c 0) (IE.c 0),Ob1.ie (IE.c 0) (IE.c 0),Ob1.ie (IE.c 11) (IE.c 11),Ob1.ie (IE.c 3) (IE.c 3),Ob1.ie (IE.c 0) (IE.c 0),Ob1.ie (IE.c 0) (IE.c 0),Ob1.ie (IE.c 0) (IE.c 0),Ob1.ie (IE.c 0) (IE.c 0),Ob1.ie (IE.c 4) (IE.c 4),Ob1.ie (IE.c 1) (IE.c 1),Ob1.ie (IE.c 9) (IE.c 9),Ob1.ie (IE.c 0) (IE.c 0),Ob1.ie (IE.c 0) (IE.c 0),Ob1.ie (IE.c 0) (IE.c 0),Ob1.ie (IE.fn 30 (IE.v 0) (IE.c 0) (IE.c 2)) (IE.v 3)]) (VC.br (CE.eq (IE.fn 30 (IE.fn 31 (IE.v 0) (IE.c 0) (IE.c 2)) (IE.add (IE.c 0) (IE.c 1)) (IE.c 2)) (IE.c 0)) (VC.ok [Ob1.ie (IE.c 1) (IE.v 4),Ob1.ie (IE.fn 31 (IE.fn 31 (IE.v 0) (IE.c 0) (IE.c 2)) (IE.add (IE.c 0) (IE.c 1)) (IE.c 2)) (IE.v 1),Ob1.ie (IE.add (IE.add (IE.c 0) (IE.c 1)) (IE.c 1)) (IE.v 2),Ob1.ie (IE.c 1) (IE.c 1),Ob1.ie (IE.c 5) (IE.c 5),Ob1.ie (IE.c 7) (IE.c 7),Ob1.ie (IE.c 2) (IE.c 2),Ob1.ie (IE.c 0) (IE.c 0),Ob1.ie (IE.c 0) (IE.c 0),Ob1.ie (IE.c 0) (IE.c 0),Ob1.ie (IE.c 11) (IE.c 11),Ob1.ie (IE.c 3) (IE.c 3),Ob1.ie (IE.c 0) (IE.c 0),Ob1.ie (IE.c 0) (IE.c 0),Ob1.ie (IE.c 0) (IE.c 0),Ob1.ie (IE.c 0) (IE.c 0),Ob1.ie (IE.c 4) (IE.c 4),Ob1.ie (IE.c 1) (IE.c 1),Ob1.ie (IE.c 9) (IE.c 9),Ob1.ie (IE.c 0) (IE.c 0),Ob1.ie (IE.c 0) (IE.c 0),Ob1.ie (IE.c 0) (IE.c 0),Ob1.ie (IE.fn 30 (IE.v 0) (IE.c 0) (IE.c 2)) (IE.v 3)]) VC.fail)))
theorem Ga (P:Params):GV P=J5:=by kernel_rfl
theorem Cn (P:Params):dL P 904=some (aZ P 904):=by kernel_rfl
theorem rT (P:Params):aQ (aZ P 904) [.loc 0]=some [(S' "script",.loc 0)]:=by kernel_rfl
theorem BP (P:Params):(⟨[(S' "script",AV.loc 0)].reverse.filter (fun x=>decide ((aZ P 904).scope.names.lookup x.1=some .local)),(ae (aZ P 904).scope.names).zip ((List.range (ae (aZ P 904).scope.names).length).map (([.opq 7]:List AO).length + ·)),[.opq 7]++(ae (aZ P 904).scope.names).map (fun n=>.cell ([(S' "script",AV.loc 0)].reverse.lookup n)),[]⟩:St)=Ld:=by kernel_rfl
theorem tv (P:Params):al P 904=(dW P).take 2++(((dW P).drop 2).take 1++(dW P).drop 3):=by kernel_rfl
noncomputable def kI (ns:List Int):Int:=bu (fA ns) 0 2
noncomputable def CD (ns:List Int):Int:=if bu (cb (fA ns) 0 2) 1 2=1 then 4 else 1
noncomputable def jg (ns:List Int):Int:=cb (cb (fA ns) 0 2) 1 2
noncomputable def fw (ns:List Int):Rho:=cZ [fA ns,jg ns,2,kI ns,CD ns] fun zw=>[]
theorem j9 (ns:List Int):kI ns=0\/kI ns=1:=by
 have:=bC (a:=fA ns) (c:=0) (m:=2) (by (first | decide | lia | omega))
 unfold kI; (first | decide | lia | omega)
theorem AZ (ns:List Int):1<=CD ns/\CD ns<=4:=by unfold CD; split <;> (first | decide | lia | omega)
section
variable {w:World} {A:Around} {gs:Array GenState} {dr:Drawn} {os:OsState} {h:Heap} {n:Nat}
theorem AI {x:Int} {P:Prop} (h:0<=x/\x < 2) (h0:¬x=0) (h1:¬x=1):P:=by exfalso; (first | lia | omega)
theorem F0 {l:Addr} {Vs:List Value} {ns:List Int} (W:Wd w h) (L:At h.get? l (.lst Vs)) (I:IntsAre Vs ns) (hz:Vs.length<=1000) (R:Room A 201) {Q:Value->Shared->Prop} {E:Value->Shared->Prop}
  (q:∀A' env h' n' as',Room A' 200->env.scope=fq w.params->SR w (fw ns) (OS l h.get?) h.get? env h' mE as'->∀E',wpAny (model pr w) A' (execs ((dW w.params).drop 3) env) (fun fl s'=>Q (match fl with | .ret v=>v | _=>.none) s') E' ⟨h',gs,dr,n',os⟩) :
  wpAny (model pr w) A (call (.ref 904) [.ref l]) Q E ⟨h,gs,dr,n,os⟩:=by
 have HB0:HB w (OS l h.get?):=⟨h,W,fun zw zw e=>e⟩
 have HH1:H2 w (fw ns) (OS l h.get?) Mt 60:=⟨HB0,by (first | decide | lia | omega),ay.or (ay.le (d:=14) (Bg (ρ:=fw ns) L I hz rfl) (by (first | decide | lia | omega))) vR⟩
 have HH2:H2 w (fw ns) (OS l h.get?) fX 40:=⟨HB0,by (first | decide | lia | omega),d8 rfl rfl⟩
 have C0:Co w (fw ns) (OS l h.get?) h.get? h [.opq 7] [] [l]:=Co.all W (fun zw zw e=>e) (.cons ⟨⟨let ⟨o,e,_⟩:=L; ⟨o,e⟩,rfl,rfl⟩,rfl⟩ .nil)
 refine go (R.le (m:=200 + 1) (by (first | decide | lia | omega))) (Cn w.params) (rT w.params) C0 (.cons ⟨l,rfl,rfl⟩ .nil) fun A' env h1 n1 as1 R1 esc p1 S1 E'=>?_
 have S1:SR w (fw ns) (OS l h.get?) h.get? env h1 Ld as1:=by refine aa (Eq.symm (BP w.params)) ?_; exact S1
 have esc:env.scope=fq w.params:=esc
 show wpAny _ _ (execs (al w.params 904) env) _ _ _
 rw [tv]
 refine aH (iM (ρ':=fw ns) HH1 esc (DS w.params) (R1.le (by (first | decide | lia | omega))) S1 ?_ fun h2 as2 n2 S2 p2=>?_)
 ·exact gf (ρ:=fw ns) (by kernel_rfl)
 refine aH (iM (ρ':=fw ns) HH2 esc (Ga w.params) (R1.le (by (first | decide | lia | omega))) S2 ?_ fun h3 as3 n3 S3 p3=>?_)
 ·have b:=bC (a:=cb (fA ns) 0 2) (c:=1) (m:=2) (by (first | decide | lia | omega))
  exact ⟨by show (0:Int)<=0 + 1; decide,by show (0:Int) + 1 < 1000000; decide,fun hE=>⟨(if_pos hE).symm,rfl,rfl,rfl,rfl,rfl,rfl,rfl,rfl,rfl,rfl,rfl,rfl,rfl,rfl,rfl,rfl,rfl,rfl,rfl,rfl,rfl,rfl⟩,
   fun hE=>⟨fun h0=>⟨(if_neg hE).symm,rfl,rfl,rfl,rfl,rfl,rfl,rfl,rfl,rfl,rfl,rfl,rfl,rfl,rfl,rfl,rfl,rfl,rfl,rfl,rfl,rfl,rfl⟩,fun h0=>AI b h0 hE⟩⟩
 exact q A' env h3 n3 _ R1 esc S3 E'
end
noncomputable def M4 (a c:IE):List AO:=[.dead,.cell (some (.loc 6)),.cell (some (.loc 8)),.cell (some (.int (.v 4))),.cell none,.cell none,.lst [.int a,.int c]]++(sC 7).map AO.fzd
noncomputable def kM:List AO:=M4 (.v 1) (.v 2)
noncomputable def Ce:St:=⟨[(S' "mode",.int (.v 3))],g9,kM,[]⟩
theorem zW:hA [1,2,3,4,5,6] 0 mE.ob=kM:=by kernel_rfl
noncomputable def Cv:Stmt->Expr | .Assign (e::_) _ _=>e | _=>.Constant .none 0 default
noncomputable def xT (P:Params):Stmt:=(dW P).getD 3 (.Pass default)
noncomputable def mv (P:Params):Expr:=ch (xT P)
noncomputable def dj (P:Params):Expr:=q8 (mv P)
noncomputable def q9 (P:Params):Expr:=CJ (mv P)
noncomputable def B3:List (Str×Nat):=[(S' "orders",3),(S' "heap",1),(S' "font",2)]
theorem xc (P:Params):(dW P).drop 3 = .Assign [.Name (S' "items") (aS (Cv (xT P)))] (.ListComp (.Call (.Name (bj (ax (dj P))) (aS (ax (dj P)))) [(aJ (dj P)).getD 0 (dj P),(aJ (dj P)).getD 1 (dj P),(aJ (dj P)).getD 2 (dj P)] [] (cg (dj P))) [⟨.Name (S' "lap") (aS (Cz (mv P))),.Call (.Name (bj (ax (q9 P))) (aS (ax (q9 P)))) [bq (q9 P)] [] (cg (q9 P)),[],0⟩] (kJ (mv P)) (xu (mv P))) (rh (xT P))::(dW P).drop 4:=by kernel_rfl
theorem Hx (P:Params):bj (ax (q9 P))=S' "range"/\(fq P).names.lookup (S' "range")=some .globalImplicit/\nsIn (K P) mainGlobals (S' "range")=some none:=⟨by kernel_rfl,by kernel_rfl,by kernel_rfl⟩
theorem sv:bootBuiltins (Str.ofString "range")=some (.type "range"):=by boot_fast
theorem sA {w:World} {ρ:Rho} {O:Opq} {G:Gr} {A:Around} {env:Env} {h:Heap} {s:St} {as:List Addr} {gs:Array GenState} {dr:Drawn} {n:Nat} {os:OsState} {E:Value->Shared->Prop} {x:Str} {v:Value} {pos:Pos} {Q:Value->Shared->Prop} (S:SR w ρ O G env h s as) (h0:(x == S' "__debug__")=false) (h1:x≠S' "__name__") (hl:env.scope.names.lookup x=some .globalImplicit)
  (e:nsIn (K w.params) mainGlobals x=some none) (bb:bootBuiltins x=some v) (q:Q v ⟨h,gs,dr,n,os⟩):wpAny (model pr w) A (eval (.Name x pos) env) Q E ⟨h,gs,dr,n,os⟩:=by
 apply bc;intro ng
 obtain ⟨hb,W,kb⟩:=S.bs
 have kk:∀a o,hb.get? a=some o->h.get? a=some o:=fun a o e=>S.kp _ _ (kb _ _ e)
 obtain ⟨p,l,me,mg,mb,T⟩:=W.t
 apply ng;clear ng
 have T:=topRead_of T
 have hg:h.Ns env.globals mg:=by refine aa S.eg ?_; exact T.g.keeps kk
 have hbb:h.Ns env.builtins mb:=by refine aa S.eb ?_; exact T.b.keeps kk
 exact Calls.Name_function_global S.ek hl (Calls.loadGlobal_builtin (s:=⟨h,gs,dr,n,os⟩) hg (mg_none_of W.k T.g e) hbb ((T.builtins x h1).trans bb) q) h0
noncomputable def MU (P:Params):VC:=(bB P fX 20 (fq P) (bq (q9 P)) Ce).vc [0,1,2,3,4,5,6,7,8,9,10,11,12] (.rt (.int (.v 5))) Ce
theorem Iq (P:Params):cW (kJ (mv P)) (S' "lap")=true/\cp (.Call (.Name (bj (ax (q9 P))) (aS (ax (q9 P)))) [bq (q9 P)] [] (cg (q9 P)))=false/\eK g9 (kJ (mv P)).names []=some B3:=⟨by kernel_rfl,by kernel_rfl,by kernel_rfl⟩
noncomputable def eZ (ls:List (Str×AV)):St:=⟨ls,B3,kM,[]⟩
noncomputable def vv (P:Params):Scope:=bM (kJ (mv P)) (fq P)
theorem LE (P:Params) (ls:List (Str×AV)):bB P aA 12 (vv P) (.Name (bj (ax (dj P))) (aS (ax (dj P)))) (eZ ls) = .leaf (.rt (.glb (.ref 871))) (eZ ls):=by kernel_rfl
theorem FR (P:Params) (ls:List (Str×AV)):bZ (vv P) (S' "lap") .any (eZ ls) (fun s=>.leaf .nx s) = .leaf .nx (eZ ((S' "lap",.any)::ls)):=by kernel_rfl
noncomputable def k3 (vs:List AV) (s:St):Tr:=match vs with | [v1,v2,v3]=>.leaf (.rt v1) { s with ls:=(S' "",v2)::(S' "",v3)::s.ls } | _=>.fail
theorem JQ (P:Params) (ls:List (Str×AV)) (k:List AV->St->Tr):m7 (fJ P aA 12) (vv P) [(aJ (dj P)).getD 0 (dj P),(aJ (dj P)).getD 1 (dj P),(aJ (dj P)).getD 2 (dj P)] (eZ ls) k=k [.loc 6,.loc 8,.int (.v 4)] (eZ ls):=by kernel_rfl
theorem Kc (P:Params):keepIn (K P) (.ref 871)=true:=by kernel_rfl
theorem nU (P:Params):([(aJ (dj P)).getD 0 (dj P),(aJ (dj P)).getD 1 (dj P),(aJ (dj P)).getD 2 (dj P)].all fun e=>!aK e)=true/\aK (bq (q9 P))=false:=⟨by kernel_rfl,by kernel_rfl⟩
noncomputable def Fy (P:Params):Bool:=(if (fq P).kind.isAnnotationScope then ScopeKind.function else (fq P).kind) == .function && (fq P).names.lookup (S' "items") == some .local && (aS (Cv (xT P))).line == (xu (mv P)).line
   && !((kJ (mv P)).names.any fun (n,k)=>n == S' "items" && (k == .local || k == .cell))
theorem E7 (P:Params):Fy P=true:=by kernel_rfl
noncomputable def jj:St:=⟨[(S' "items",.loc 13),(S' "mode",.int (.v 3))],g9,kM++[.rf 1],[]⟩
theorem zZ (P:Params):bZ (fq P) (S' "items") (.loc 13) ⟨[(S' "mode",.int (.v 3))],g9,kM++[.rf 1],[]⟩ (fun s=>.leaf .nx s) = .leaf .nx jj:=by kernel_rfl
noncomputable def Bh:AO:=.ns [(S' "skew_char",.any),(S' "hyphen_char",.any),(S' "edge_start",.any),(S' "boundary",.any),(S' "kerns",.any),(S' "program",.any),(S' "chars",.loc 9),(S' "params",.any),(S' "check",.any),(S' "design",.any),(S' "size",.any),(S' "name",.any),(S' "number",.int (.c 1))]
noncomputable def Gx (i:Nat):Option Nat:=if i=7 then some 0 else if i=8 then some 1 else if i=9 then some 2 else none
theorem xG:fF Gx Bh uf=some [.ie (.c 1) (.c 1)]:=by kernel_rfl
theorem wk:fF Gx (.inst 822 7) (.inst 822 0)=some []:=by kernel_rfl
section
variable {w:World} {ρ:Rho} {A:Around} {gs:Array GenState} {dr:Drawn} {os:OsState} {g G:Gr} {env:Env} {h:Heap} {n:Nat} {as:List Addr}
set_option tactic.hygienic true
theorem uG {as:List Addr} {g:Gr} {x:Addr}:∀{ns:List Int},aO ρ as g x (.tup (ny ns))->hM g x ns:=by
 intro ns ⟨Vs,d1,a1⟩
 refine ⟨Vs,?_,a1⟩
 clear a1
 induction ns generalizing Vs with
 | nil=>cases d1; exact .nil
 | cons m r ih =>
  cases d1; rename_i c0 d1
  obtain ⟨t,rfl⟩:=c0
  exact .cons _ _ (ih _ d1)
theorem yG {ls:List (Str×AV)} {cl:List (Str×Nat)} {pc:List (CE×Bool)} (S:SR w ρ (OG w g) G env h ⟨ls,cl,kM,pc⟩ as):∃f0 f1 f2,as[7]? = some f0/\as[8]? = some f1/\as[9]? = some f2/\aU w g [f0,f1,f2]:=by
 apply bc;intro ng
 obtain ⟨a7,e7,x7,-⟩:=S.get (i:=7) (o:=.fz Bh) rfl
 obtain ⟨a8,e8,x8,-⟩:=S.get (i:=8) (o:=.fz (.inst 822 7)) rfl
 obtain ⟨a9,e9,⟨kvs,k1,k2⟩,-⟩:=S.get (i:=9) (o:=.fz (.dc [(97,.loc 10),(98,.loc 11),(99,.loc 12)])) rfl
 obtain ⟨a10,e10,x10,-⟩:=S.get (i:=10) (o:=.fz (.tup (ny [5,7,2,0,0,0]))) rfl
 obtain ⟨a11,e11,x11,-⟩:=S.get (i:=11) (o:=.fz (.tup (ny [11,3,0,0,0,0]))) rfl
 obtain ⟨a12,e12,x12,-⟩:=S.get (i:=12) (o:=.fz (.tup (ny [4,1,9,0,0,0]))) rfl
 apply ng;clear ng
 have hm:Mp Gx as [a7,a8,a9]:=by
  intro i j ej x ex
  unfold Gx at ej
  split at ej
  ·rename_i z; subst z; cases ej; rw [e7] at ex; cases ex; rfl
  ·split at ej
   ·rename_i z; subst z; cases ej; rw [e8] at ex; cases ex; rfl
   ·split at ej
    ·rename_i z; subst z; cases ej; rw [e9] at ex; cases ex; rfl
    ·exact ap ej
 refine ⟨a7,a8,a9,e7,e8,e9,a7,a8,a9,rfl,bL (ρ:=ρ) (ρ':=dm []) (o:=Bh) hm xG rfl x7,bL (ρ:=ρ) (ρ':=dm []) (o:=.inst 822 7) hm wk trivial x8,a10,a11,a12,?_,uG x10,uG x11,uG x12⟩
 cases k1; rename_i c0 k1; cases k1; rename_i c1 k1; cases k1; rename_i c2 k1; cases k1
 rename_i b0 b1 b2
 apply bc;intro ng
 obtain ⟨p0,q0⟩:=b0; obtain ⟨p1,q1⟩:=b1; obtain ⟨p2,q2⟩:=b2
 obtain ⟨f0,x0,g0,h0⟩:=c0; obtain ⟨f1,x1,g1,h1⟩:=c1; obtain ⟨f2,x2,g2,h2⟩:=c2
 apply ng;clear ng
 subst f0; subst f1; subst f2
 dsimp only at g0 g1 g2 h0 h1 h2
 rw [e10] at g0; rw [e11] at g1; rw [e12] at g2
 cases g0; cases g1; cases g2
 apply bc;intro ng
 subst h0 h1 h2
 apply ng;clear ng
 exact k2
set_option tactic.hygienic false
end
noncomputable def M8:VC:=VC.req (CE.le (IE.c 0) (IE.v 2)) (VC.req (CE.lt (IE.v 2) (IE.c 1000000)) (VC.ok [Ob1.ie (IE.add (IE.c 2) (IE.fn 30 (IE.v 1) (IE.v 2) (IE.c 8))) (IE.v 5),Ob1.ie (IE.v 4) (IE.v 4),Ob1.ie (IE.fn 31 (IE.v 1) (IE.v 2) (IE.c 8)) (IE.v 1),Ob1.ie (IE.add (IE.v 2) (IE.c 1)) (IE.v 2),Ob1.ie (IE.c 1) (IE.c 1),Ob1.ie (IE.c 5) (IE.c 5),Ob1.ie (IE.c 7) (IE.c 7),Ob1.ie (IE.c 2) (IE.c 2),Ob1.ie (IE.c 0) (IE.c 0),Ob1.ie (IE.c 0) (IE.c 0),Ob1.ie (IE.c 0) (IE.c 0),Ob1.ie (IE.c 11) (IE.c 11),Ob1.ie (IE.c 3) (IE.c 3),Ob1.ie (IE.c 0) (IE.c 0),Ob1.ie (IE.c 0) (IE.c 0),Ob1.ie (IE.c 0) (IE.c 0),Ob1.ie (IE.c 0) (IE.c 0),Ob1.ie (IE.c 4) (IE.c 4),Ob1.ie (IE.c 1) (IE.c 1),Ob1.ie (IE.c 9) (IE.c 9),Ob1.ie (IE.c 0) (IE.c 0),Ob1.ie (IE.c 0) (IE.c 0),Ob1.ie (IE.c 0) (IE.c 0),Ob1.ie (IE.v 3) (IE.v 3)]))
theorem Jt (P:Params):MU P=M8:=by kernel_rfl
theorem ju {as:List Addr} {n:Nat} (e:as.length=n):((List.range n).map fun j=>as.getD j 0)=as:=by
 apply List.ext_getElem
 ·simp [e]
 ·intro i h1 h2
  simp [List.getD,List.getElem?_eq_getElem h2]
theorem o8 {P:Nat->Nd->Prop}:∀{Us:List Value} {nds:List Nd},All2 (fun U nd=>∃b,U = .ref b/\P b nd) Us nds->∃bs:List Int,Us=bs.map ak
 | _,_,.nil=>⟨[],rfl⟩
 | _,_,.cons ⟨b,e,_⟩ x=>let ⟨bs,z⟩:=o8 x; ⟨(b:Int)::bs,by refine aa e (aa z ?_); rfl⟩
theorem BS {G G':Gr} {l:List Addr} (k:bf G G'):bf (strip l G) (strip l G'):=fun a o e=>by
 unfold strip at e ⊢
 split at e
 ·exact ap e
 ·rename_i m; refine aa (if_neg m) ?_; exact k a o e
theorem EZ {ρ:Rho} {vs:List AV} {s s0:St} {u1 u2 u3:AV} (y:(k3 vs s).ok ρ fun f s'=>f = .rt u1/\s' = { s0 with ls:=(S' "",u2)::(S' "",u3)::s0.ls }):vs = [u1,u2,u3]/\s=s0:=by
 induction vs using List.casesOn with
 | nil=>exact y.elim
 | cons v1 vs=>induction vs using List.casesOn with
  | nil=>exact y.elim
  | cons v2 vs=>induction vs using List.casesOn with
   | nil=>exact y.elim
   | cons v3 vs=>induction vs using List.casesOn with
    | cons v4 vs=>exact y.elim
    | nil =>
     have e1:v1=u1:=Fl.rt.inj y.1
     have e2:=Mf y.2
     have e3:=List.cons.inj e2.1
     have e4:=List.cons.inj e3.2
     refine aa e1 (aa (show v2=u2 from congrArg Prod.snd e3.1) (aa (show v3=u3 from congrArg Prod.snd e4.1) ?_))
     exact ⟨rfl,e2.2 e4.2⟩
section
variable {w:World} {ρ:Rho} {O:Opq} {A:Around} {gs:Array GenState} {dr:Drawn} {os:OsState} {g G:Gr} {env:Env} {h:Heap} {n:Nat} {s:St} {as:List Addr}
set_option tactic.hygienic true
theorem SR.growLe (S:SR w ρ O G env h s as) (keep:List Nat):bf G (mt h env.locals (keep.filterMap (bY s.ob as))):=fun a o e=>by
 unfold mt
 rw [if_neg]
 ·exact S.kp a o e
 ·rintro (q | q)
  ·rw [q,S.fL] at e; exact ap e
  ·obtain ⟨j,mj,e1⟩:=List.mem_filterMap.mp q
   unfold bY at e1
   split at e1
   ·rename_i o' eo
    split at e1
    ·rename_i ow
     rw [((S.ob j o' a eo e1).2 ow).2] at e; exact ap e
    ·exact ap e1
   ·exact ap e1
set_option tactic.hygienic false
theorem wK {use:Option (Value->Sem Unit)} {x:Str} {px:Pos} {elt iter:Expr} {csc:Scope} {pos:Pos} {cls cl:List (Str×Nat)} (hok:cW csc x=true) (hset:cp iter=false) (hcl:eK cls csc.names []=some cl) (hcc:∀x i,cls.lookup x=some i->∃a,as[i]? = some a/\env.cells.lookup x=some a) :
  ∃Res,(∀x i,cl.lookup x=some i->∃a,as[i]? = some a/\Res.lookup x=some a)/\∀{A:Around} {Er Q:Value->Shared->Prop} {st:Shared} {p2:Pos},
   wpAny (model pr w) A (eval iter env) (fun v s₁=>wpAny (model pr w) A (pyIter v) (fun it s₂=>Cr w A Er Q env csc Res elt x px iter pos use it s₂) Er s₁) Er st->wpAny (model pr w) A (comprehension (.ListComp elt [⟨.Name x px,iter,[],0⟩] csc pos) csc env p2 (newList []) false (eval iter env) use) Q Er st:=by
 have ck:=eO hok
 apply bc;intro ng
 obtain ⟨Res,r1,r2⟩:=fG hcc hcl
 apply ng;clear ng
 exact ⟨Res,r2,fun {A Er Q st p2} h=>wpAny_comprehension_free rfl (dH hset) r1 ck.2.1 ck.2.2.1 h⟩
theorem m5 {x y:Str} {px py:Pos} {elt iter:Expr} {csc:Scope} {pos spos:Pos} {E:Value->Shared->Prop} {Q:Flow->Shared->Prop} {st:Shared} (hsw:swapsWith (.ListComp elt [⟨.Name x px,iter,[],0⟩] csc pos) (some (.Name y py)) spos.line env=pure true)
  (q:wpAny (model pr w) A (comprehension (.ListComp elt [⟨.Name x px,iter,[],0⟩] csc pos) csc env (firstIterPos [⟨.Name x px,iter,[],0⟩] pos) (newList []) false (eval iter env) (some (assign (.Name y py) env))) (fun zw s'=>Q .next s') E st) :
  wpAny (model pr w) A (exec (.Assign [.Name y py] (.ListComp elt [⟨.Name x px,iter,[],0⟩] csc pos) spos) env) Q E st:=by
 refine aa (exec_Assign_Name_used _ _ _ _ hsw) ?_
 refine wpAny_bind (wpAny_standAt (wpAny_bind ?_))
 show wpAny _ A (do let _ <- comprehension (.ListComp elt [⟨.Name x px,iter,[],0⟩] csc pos) csc env (firstIterPos [⟨.Name x px,iter,[],0⟩] pos) (newList []) false (eval iter env) (some (assign (.Name y py) env))) _ _ st
 exact wpAny_bind (wpAny_mono q (fun zw s' hq=>wpAny_pure (wpAny_pure hq)) fun zw zw e=>e)
structure Drawn' (w:World) (G:Gr) (F:List Addr) (bs:List Int) (nds:List Nd):Prop where
 fo:aU w G F
 it:All2 (fun V nd=>∃b,V = .ref b/\bQ G F b nd/\nd.ok/\nd.bd/\nd.k≠.pck) (bs.map ak) nds
 lo:2<=nds.length
 hi:nds.length<=9
noncomputable def qd (ns:List Int) (x c N:Int):Rho:=cZ [0,x,c,kI ns,CD ns,N] fun zw=>[]
noncomputable def w5 (ns:List Int) (x c:Int) (bs:List Int):Rho:=cZ [0,x,c,kI ns,CD ns] fun k=>if k=1 then bs else []
def L5 (ns:List Int) (F:List Addr) (L:Addr) (N:Int) (i:Nat) (Gi:Gr) (ρ:Rho) (s:St) (Us:List Value):Prop :=
 ∃x c,ρ=qd ns x c N/\s=eZ s.ls/\0<=c/\c<=3 + 20 * (i:Int)/\∃nds:List Nd,nds.length=i/\All2 (fun U nd=>∃b,U = .ref b/\bQ (strip [L] Gi) F b nd/\nd.ok/\nd.bd/\nd.k≠.pck) Us nds
theorem A6:∀(i:Nat) (a c:IE) o,(kM.set 6 (.lst [.int a,.int c]))[i]? = some o->o.own=true->∃o',kM[i]? = some o'/\o'.own=true:=by
 intro i a c o e ow
 match i,e with
 | 0,e=>cases e; cases ow
 | 1,e=>exact ⟨_,rfl,rfl⟩ | 2,e=>exact ⟨_,rfl,rfl⟩ | 3,e=>exact ⟨_,rfl,rfl⟩ | 4,e=>exact ⟨_,rfl,rfl⟩ | 5,e=>exact ⟨_,rfl,rfl⟩ | 6,e=>exact ⟨_,rfl,rfl⟩
 | 7,e=>cases e; cases ow
 | 8,e=>cases e; cases ow
 | 9,e=>cases e; cases ow
 | 10,e=>cases e; cases ow
 | 11,e=>cases e; cases ow
 | 12,e=>cases e; cases ow
 | i + 13,e=>exact ap e
theorem DW (ls:List (Str×AV)) (a c:Int):aN (List.range 13) { eZ ls with ob:=kM.set 6 (.lst [.int (.c a),.int (.c c)]) } (eZ [])=some ([.ie (.v 4) (.v 4),.ie (.c a) (.v 1),.ie (.c c) (.v 2),.ie (.c 1) (.c 1)]++[5,7,2,0,0,0,11,3,0,0,0,0,4,1,9,0,0,0].map fun z=>.ie (.c z) (.c z)):=by kernel_rfl
theorem xi {ns:List Int} {x c N:Int} {i:Nat} {F:List Addr} {L it ac y f1:Addr} {O:Opq} {G1' G':Gr} {cenv:Env} {ls:List (Str×AV)} {V:Value} {Us:List Value} (R:Room A 199) (Fo:aU w O.g F) (hO:HB w O) (hf1:F[1]? = some f1) (gy:O.g y=none)
  (hi:i < 9) (hc:0<=c/\c<=3 + 20 * (i:Int)) {nds:List Nd} (hn:nds.length=i) (hT:All2 (fun U nd=>∃b,U = .ref b/\bQ (strip [L] G1') F b nd/\nd.ok/\nd.bd/\nd.k≠.pck) Us nds) (g1:bf G1' G') (fr:∀a∈[it,ac],G1' a=none)
  (exs:∀a∈[L,it,ac],∃o,G' a=some o) (csc:cenv.scope=vv w.params) (S5:SR w (qd ns x c N) O G' cenv h (eZ ls) as) (e6:as[6]? = some y) (e8:as[8]? = some f1) {fx:List (Nat×Addr)} (fxk:Fx fx as) (T E1 E2:Value->Shared->Prop)
  (q:∀U ρ' s' h' n' as' G2,bf G' G2->L5 ns F L N (i + 1) (strip [it,ac] G2) ρ' s' (Us++[U])->SR w ρ' O G2 cenv h' s' as'->Fx fx as'->T U ⟨h',gs,dr,n',os⟩) :
  wpAny (model pr w) A (storeName cenv (S' "lap") V) (fun zw s₂=>wpAny (model pr w) A (eval (.Call (.Name (bj (ax (dj w.params))) (aS (ax (dj w.params)))) [(aJ (dj w.params)).getD 0 (dj w.params),(aJ (dj w.params)).getD 1 (dj w.params),(aJ (dj w.params)).getD 2 (dj w.params)] [] (cg (dj w.params))) cenv) T E1 s₂) E2 ⟨h,gs,dr,n,os⟩:=by
 have HH:∀{ρ:Rho},H2 w ρ O aA 2:=H2.no hO
 have RR:Room A (12 + 2):=R.le (by (first | decide | lia | omega))
 refine aW (post:=fun f s=>s=eZ ((S' "lap",.any)::ls)) (v:=.any) (k:=fun s=>.leaf .nx s) (by rw [csc,FR]; rfl) S5 trivial fun s6 h6 n6 y6 S6=>?_
 have y6:s6=_:=y6
 subst y6
 refine jv (Kc w.params) (nU w.params).1 (oy HH csc (LE w.params _) RR S6 fun V7 h7 as7 n7 S7 p7 dv=>⟨dv,?_⟩)
 refine cQ (post:=fun f s=>f = .rt (.loc 6)/\s = { eZ ((S' "lap",.any)::ls) with ls:=(S' "",.loc 8)::(S' "",.int (.v 4))::(eZ ((S' "lap",.any)::ls)).ls }) (k:=k3) (HH.run 12) RR (by refine aa csc ?_; exact (congrArg (fun t=>Tr.ok _ _ t) (JQ w.params _ k3)).mpr ⟨rfl,rfl⟩) S7 fun vs Ws s8 h8 as8 n8 y8 S8 p8 dvs hws=>⟨S8.k,?_⟩
 clear hws
 apply bc;intro ng
 obtain ⟨rfl,rfl⟩:=EZ (s0:=eZ ((S' "lap",.any)::ls)) y8
 apply ng;clear ng
 have e6:as8[6]? = some y:=p8.get (p7.get e6)
 have e8:as8[8]? = some f1:=p8.get (p7.get e8)
 apply bc;intro ng
 obtain ⟨W1,Wr,eW,d1,dvs⟩:=dvs.c
 obtain ⟨W2,W3,eW2,d2,t3,d3⟩:=dvs.two
 obtain ⟨y',ey,⟨Vs,v1,v2⟩,gn⟩:=S8.get (i:=6) (o:=.lst [.int (.v 1),.int (.v 2)]) rfl
 rw [eW,eW2,cA d1 e6,cA d2 e8,d3] at ng
 rw [<- show y=y' from aF (e6.symm.trans ey)] at v2 gn
 apply ng;clear ng eW eW2 d1 d2 d3 dvs
 have hin:IntsAre Vs [x,c]:=dQ (es:=[.v 1,.v 2]) v1
 have hg:∀b o,O.g b=some o->G1 h8 y b=some o:=fun b o e=>(gT fun q=>ap (gy.symm.trans (q▸e))).trans (S8.kp _ _ (S8.og _ _ e))
 have B:gZ w (G1 h8 y):=by
  apply bc;intro ng
  obtain ⟨hb,W,kb⟩:=hO
  apply ng;clear ng
  exact ⟨hb,W,fun a o e=>hg a o (kb a o e)⟩
 have od:=AZ ns
 refine tM (g:=O.g) (F:=F) Fo hg B v2 hin ⟨hc.1,by (first | decide | lia | omega)⟩ od (R.le (by (first | decide | lia | omega))) hf1 fun h9 n9 b nd a' c' Vs' k9 L9 I9 l1 l2 N9 bd ok np=>?_
 have S10:=S8.obj' (j:=6) (o':=.lst [.int (.c a'),.int (.c c')]) rfl rfl e6 k9 (by
  let ⟨t0,t1,e⟩:=jo I9
  exact ⟨_,.cons ⟨t0,rfl⟩ (.cons ⟨t1,rfl⟩ .nil),e▸L9⟩)
 have S10:SR w (qd ns x c N) O G' cenv h9 { eZ ((S' "lap",.any)::ls) with ob:=kM.set 6 (.lst [.int (.c a'),.int (.c c')]) } as8:=S10
 apply bc;intro ng
 obtain ⟨S11,le11⟩:=S10.wide
 apply ng;clear ng
 have new:bf (Gn h8 h9) (strip [L] (strip [it,ac] (dA h9 cenv.locals (kM.set 6 (.lst [.int (.c a'),.int (.c c')])) as8))):=by
  intro z o e
  unfold Gn at e
  split at e
  ·exact ap e
  ·rename_i hz
   have k8:∀a∈[L,it,ac],z≠a:=fun a m q=>by
    apply bc;intro ng
    obtain ⟨o,eo⟩:=exs a m
    apply ng;clear ng
    have:=S8.kp _ _ eo
    rw [<- q,hz] at this; exact ap this
   unfold strip
   refine aa (if_neg (by simpa using k8 L (.head _))) (aa (if_neg (by simp [k8 it (by simp),k8 ac (by simp)])) ?_)
   unfold dA
   rw [if_neg]
   ·exact e
   ·rintro (q | q)
    ·obtain ⟨fn,⟨oL,es,ep,l2,l3⟩,_⟩:=S8.lc
     rw [<- q,hz] at l2; exact ap l2
    ·obtain ⟨j,oj,z1,z2,z3⟩:=dF.mp q
     apply bc;intro ng
     obtain ⟨o',w1,w2⟩:=A6 j _ _ oj z1 z2
     obtain ⟨u,eu⟩:=((S8.ob j o' z w1 z3).1).ex w2
     apply ng;clear ng
     rw [hz] at eu; exact ap eu
 have S12:=S11.re (ρ':=qd ns a' c' N) (s':=eZ []) (List.range 13) (DW _ a' c') ⟨rfl,rfl,rfl,rfl,rfl,rfl,rfl,rfl,rfl,rfl,rfl,rfl,rfl,rfl,rfl,rfl,rfl,rfl,rfl,rfl,rfl,rfl⟩
 rw [ju (n:=13) S11.sz] at S12
 refine q _ _ _ h9 n9 as8 _ le11 ⟨a',c',rfl,rfl,by (first | decide | lia | omega),by (first | decide | lia | omega),nds++[nd],by simp [hn],?_⟩ S12 fun p m=>p8.get (p7.get (fxk p m))
 have old:bf (strip [L] G1') (strip [L] (strip [it,ac] (dA h9 cenv.locals (kM.set 6 (.lst [.int (.c a'),.int (.c c')])) as8))):=BS (bf.strip fr fun a o e=>le11 a o (g1 a o e))
 exact (hT.mono fun zw zw ⟨b,e,n1,n2⟩=>⟨b,e,n1.le old,n2⟩).app (.cons ⟨b,rfl,N9.le new,ok,bd,np⟩ .nil)
end
theorem wT {n:Int} (h:2<=n/\n<=9):Builtin.Range.small 0 n 1=true/\Builtin.Range.rangeSize 0 n 1=n:=by
 have:n=2\/n=3\/n=4\/n=5\/n=6\/n=7\/n=8\/n=9:=by (first | lia | omega)
 rcases this with rfl | rfl | rfl | rfl | rfl | rfl | rfl | rfl <;> exact ⟨by decide,by decide⟩
theorem LS (x c:Int):aN (List.range 13) ⟨[(S' "mode",.int (.v 3))],g9,kM,[]⟩ ⟨[(S' "mode",.int (.v 3))],g9,kM,[]⟩=some ([.ie (.v 4) (.v 4),.ie (.v 1) (.v 1),.ie (.v 2) (.v 2),.ie (.c 1) (.c 1)]++([5,7,2,0,0,0,11,3,0,0,0,0,4,1,9,0,0,0].map fun z=>.ie (.c z) (.c z))++[.ie (.v 3) (.v 3)]):=by kernel_rfl
theorem vf:hA [1,2,3,4,5,6,13] 0 jj.ob=jj.ob:=by kernel_rfl
theorem All2.len' {α β:Type} {R:α->β->Prop}:∀{l:List α} {m:List β},All2 R l m->l.length=m.length
 | _,_,.nil=>rfl
 | _,_,.cons _ x=>congrArg (· + 1) x.len'
section
variable {w:World} {A:Around} {gs:Array GenState} {dr:Drawn} {os:OsState} {g:Gr} {env:Env} {h:Heap} {n:Nat} {as:List Addr}
theorem jl {ρ:Rho} {O:Opq} {G:Gr} {s:St} (S:SR w ρ O G env h s as):jr [h.objs.size] env.locals s.ob as/\G h.objs.size=none:=by
 refine ⟨fun b m=>?_,?_⟩
 ·refine aa (List.mem_singleton.mp m) ?_
  apply bc;intro ng
  obtain ⟨f,N,_⟩:=S.lc
  apply ng;clear ng
  exact ⟨Nat.ne_of_gt N.lt,fun i o e ow e'=>absurd ((S.ob i o _ e e').1.lt ow) (Nat.lt_irrefl _)⟩
 ·induction qq:G h.objs.size with
  | none=>rfl
  | some x=>exact absurd (Heap.lt_size (S.kp _ _ qq)) (Nat.lt_irrefl _)
theorem iw {m:Nat} {as as':List Addr}:Fx ((List.range m).zip as) as'↔∀i a,i < m->as[i]? = some a->as'[i]? = some a:=by
 constructor
 ·intro k i a hi e
  exact k (i,a) (List.mem_of_getElem? (i:=i) (List.getElem?_zip_eq_some.mpr ⟨by simp [hi],e⟩))
 ·rintro k ⟨i,a⟩ m
  obtain ⟨j,e⟩:=List.mem_iff_getElem?.mp m
  obtain ⟨e1,e2⟩:=List.getElem?_zip_eq_some.mp e
  obtain ⟨h1,h2⟩:=List.getElem?_eq_some_iff.mp e1
  simp at h1 h2
  subst h2
  exact k j a h1 e2
theorem BK (P:Params) {env:Env} (esc:env.scope=fq P) {elt iter:Expr} {px:Pos} {x:Str}:swapsWith (.ListComp elt [⟨.Name x px,iter,[],0⟩] (kJ (mv P)) (xu (mv P))) (some (.Name (S' "items") (aS (Cv (xT P))))) (rh (xT P)).line env=pure true:=by
 show (pure (env.blockKind == .function && env.kindOf (S' "items") == some .local && (aS (Cv (xT P))).line == (xu (mv P)).line && !((kJ (mv P)).names.any fun (n,k)=>n == S' "items" && (k == .local || k == .cell))):Sem Bool)=_
 have:=E7 P
 unfold Fy at this
 unfold Env.blockKind Env.kindOf
 exact aa esc (aa this rfl)
theorem F6 {l:Addr} {ns:List Int} (HO:HB w (OS l g)) (S:SR w (fw ns) (OS l g) g env h mE as) (esc:env.scope=fq w.params) (R:Room A 200) {Q:Flow->Shared->Prop} {E:Value->Shared->Prop}
  (q:∀G F bs nds x c h' n' as',bf g G->SR w (w5 ns x c bs) (OG w G) G env h' jj as'->Drawn' w G F bs nds->0<=c/\c<=200->wpAny (model pr w) A (execs ((dW w.params).drop 4) env) Q E ⟨h',gs,dr,n',os⟩) :
  wpAny (model pr w) A (execs ((dW w.params).drop 3) env) Q E ⟨h,gs,dr,n,os⟩:=by
 have SG:=S.grow [1,2,3,4,5,6]
 have gl:=S.growLe [1,2,3,4,5,6]
 have e0:({ mE with ob:=hA [1,2,3,4,5,6] 0 mE.ob }:St)=Ce:=by refine aa zW ?_; rfl
 rw [e0] at SG
 generalize mt h env.locals ([1,2,3,4,5,6].filterMap (bY mE.ob as))=G0 at SG gl
 have HB0:HB w (OG w G0):=by
  apply bc;intro ng
  obtain ⟨hb,W,kb⟩:=HO
  apply ng;clear ng
  exact ⟨hb,W,fun a o e=>gl a o (kb a o e)⟩
 apply bc;intro ng
 obtain ⟨f0,f1,f2,e7,e8,e9,Fo⟩:=yG SG
 apply ng;clear ng
 have HT:∀{vs ls},H2 w (cZ vs ls) (OG w G0) fX 40:=⟨HB0,by (first | decide | lia | omega),d8 rfl rfl⟩
 have RR:Room A (12 + 40):=R.le (by (first | decide | lia | omega))
 rw [xc]
 refine wpAny_execs_cons (m5 (BK _ esc) ?_)
 apply bc;intro ng
 obtain ⟨c1,c2,c3⟩:=Iq w.params
 obtain ⟨n1,n2,n3⟩:=Hx w.params
 obtain ⟨Res,r1,r2⟩:=wK (use:=some (assign (.Name (S' "items") (aS (Cv (xT w.params)))) env)) (x:=S' "lap") (px:=aS (Cz (mv w.params))) (elt:=.Call (.Name (bj (ax (dj w.params))) (aS (ax (dj w.params)))) [(aJ (dj w.params)).getD 0 (dj w.params),(aJ (dj w.params)).getD 1 (dj w.params),(aJ (dj w.params)).getD 2 (dj w.params)] [] (cg (dj w.params))) (pos:=xu (mv w.params)) (w:=w) c1 c2 c3 SG.cc
 apply ng;clear ng
 refine r2 (m4 (T:="range") (nU w.params).2 ?_)
 have nb:∀{Q:Value->Shared->Prop} {E:Value->Shared->Prop} {pos:Pos},Q (.type "range") ⟨h,gs,dr,n,os⟩->wpAny (model pr w) A (eval (.Name (bj (ax (q9 w.params))) pos) env) Q E ⟨h,gs,dr,n,os⟩:=fun q=>by
  refine aa n1 ?_; exact sA SG (by decide) (by decide) (by refine aa esc ?_; exact n2) n3 sv q
 refine nb ⟨rfl,?_⟩
 have dk:=bC (a:=jg ns) (c:=2) (m:=8) (by (first | decide | lia | omega))
 refine qH (ρ':=qd ns (cb (jg ns) 2 8) 3 (2 + bu (jg ns) 2 8)) HT esc (Jt w.params) (R.le (by (first | decide | lia | omega))) SG ?_ fun V h2 as2 n2' S2 p2 dv=>?_
 ·exact ⟨show (0:Int)<=2 by decide,show (2:Int) < 1000000 by decide,rfl,rfl,rfl,rfl,rfl,rfl,rfl,rfl,rfl,rfl,rfl,rfl,rfl,rfl,rfl,rfl,rfl,rfl,rfl,rfl,rfl,rfl,rfl,rfl⟩
 apply bc;intro ng
 obtain ⟨tN,rfl⟩:=dv
 apply ng;clear ng
 have p2:∀(i:Nat) a,i < 13->as[i]? = some a->([0,1,2,3,4,5,6,7,8,9,10,11,12].map fun j=>as2.getD j 0)[i]? = some a:=fun i a hi e=>by
  refine aa (show ([0,1,2,3,4,5,6,7,8,9,10,11,12]:List Nat)=List.range 13 from rfl) (aa (List.getElem?_map) (aa (List.getElem?_range hi) ?_))
  exact congrArg some ((List.getD_eq_getElem?_getD ..).trans (by refine aa (p2.get e) ?_; rfl))
 generalize ([0,1,2,3,4,5,6,7,8,9,10,11,12].map fun j=>as2.getD j 0)=as3 at S2 p2
 have hN:(IE.den (qd ns (cb (jg ns) 2 8) 3 (2 + bu (jg ns) 2 8)) (.v 5))=2 + bu (jg ns) 2 8:=rfl
 refine aa hN ?_
 have hb:2<=2 + bu (jg ns) 2 8/\2 + bu (jg ns) 2 8<=9:=by (first | decide | lia | omega)
 clear hN dk
 generalize 2 + bu (jg ns) 2 8=N at S2 hb
 apply bc;intro ng
 obtain ⟨sm,rs⟩:=wT hb
 apply ng;clear ng
 refine call_range_1 (s:=⟨h2,gs,dr,n2',os⟩) ?_
 refine wpAny_pyIter_range (IsRange.new _ _ _ _ _ _ _) sm ?_
 apply bc;intro ng
 obtain ⟨y,e6,-,gy⟩:=SG.get (i:=6) (o:=.lst [.int (.v 1),.int (.v 2)]) rfl
 apply ng;clear ng
 have gy:=(gy rfl).2
 refine aa rs ?_
 dsimp only
 have S3:=S2.stay (h':=h2.push { cls:=.type "range",data:=.fields #[.int 0 n2',.int N tN,.int 1 (n2' + 1)] }) fun zw zw e=>Heap.get?_push_of_some _ e
 generalize h2.push { cls:=.type "range",data:=.fields #[.int 0 n2',.int N tN,.int 1 (n2' + 1)] }=h3 at S3
 apply bc;intro ng
 obtain ⟨off,gi⟩:=jl S3
 apply ng;clear ng
 have S4:=S3.stay (h':=h3.push { cls:=.type "range_iterator",data:=.fields #[rawInt 0,rawInt N,rawInt 1] }) fun zw zw e=>Heap.get?_push_of_some _ e
 have j0:IsRangeIter (h3.push { cls:=.type "range_iterator",data:=.fields #[rawInt 0,rawInt N,rawInt 1] }) h3.objs.size ((0:Nat):Int) ((N.toNat:Nat) - ((0:Nat):Int)) 1:=by
  refine aa (show ((N.toNat:Nat):Int) - ((0:Nat):Int)=N by (first | decide | lia | omega)) ?_
  exact Heap.get?_push_size _ rfl
 generalize h3.push { cls:=.type "range_iterator",data:=.fields #[rawInt 0,rawInt N,rawInt 1] }=h4 at S4 j0
 generalize h3.objs.size=it at off gi j0
 have hcc:∀x i,B3.lookup x=some i->∃a,as3[i]? = some a/\Res.lookup x=some a:=fun x i e=>by
  apply bc;intro ng
  obtain ⟨b,z1,z2⟩:=r1 x i e
  apply ng;clear ng
  have hi:i < 13:=by
   have:=(List.getElem?_eq_some_iff.mp z1).1
   have sz:as.length=13:=SG.sz
   (first | decide | lia | omega)
  exact ⟨b,p2 i b hi z1,z2⟩
 apply bc;intro ng
 obtain ⟨fL,⟨oL,es,ep,l2,l3,l4⟩,lk⟩:=id S4.lc
 apply ng;clear ng
 refine r9 (d:=0) (fx:=(List.range 13).zip as3) (N:=N.toNat) (R.le (m:=0) (by (first | decide | lia | omega))) c1 hcc S4 Nxt.range j0 (by (first | decide | lia | omega)) gi off (L5 ns [f0,f1,f2] env.locals N) (fun G' le=>⟨_,3,rfl,rfl,by (first | decide | lia | omega),by (first | decide | lia | omega),[],rfl,.nil⟩) (iw.mpr fun i a zw e=>e) ?_ ?_
 ·intro i G1' G' ρ s Us cenv h5 n5 as5 V ac hi hV z1 gg g1 fr z2 hL lac nia csc nel S5 fxk T E1 E2 qT
  apply bc;intro ng
  obtain ⟨x,c,rfl,hs,hc0,hc1,nds,hn,hT⟩:=z1
  obtain ⟨ito,eit,nit⟩:=z2
  rw [hs] at S5
  apply ng;clear ng
  have fz:=iw.mp fxk
  refine xi (O:=OG w G0) (L:=env.locals) (it:=it) (ac:=ac) (G1':=G1') (R.le (by (first | decide | lia | omega))) Fo HB0 rfl gy (by (first | decide | lia | omega)) ⟨hc0,hc1⟩ hn hT g1 fr ?_ (by refine aa csc (aa esc ?_); rfl) S5 (fz 6 y (by (first | decide | lia | omega)) (p2 6 y (by (first | decide | lia | omega)) e6)) (fz 8 f1 (by (first | decide | lia | omega)) (p2 8 f1 (by (first | decide | lia | omega)) e8)) fxk T E1 E2 qT
  intro a m
  cases m with
  | head=>exact ⟨oL,hL oL l2⟩
  | tail _ m=>exact jF (p:=fun a=>∃o,G' a=some o) ⟨ito,eit⟩ (let ⟨o,eo,_⟩:=lac; ⟨o,eo⟩) a m
 ·intro ρ s' h' n' as' G' ac Us cL z1 gg gc z2 back fxk la of acL ga
  apply bc;intro ng
  obtain ⟨x,c,rfl,hs,hc0,hc1,nds,hn,hT⟩:=z1
  obtain ⟨m,Nm⟩:=z2
  apply ng;clear ng
  have fz:=iw.mp fxk
  have ob':s'.ob=kM:=by refine aa hs ?_; rfl
  apply bc;intro ng
  obtain ⟨bs,hbs⟩:=o8 hT
  apply ng;clear ng
  rw [ob'] at back of
  have S5:=back [(S' "mode",.int (.v 3))] g9 (fun x v e=>⟨v,e,fun V d=>by
   have ev:v = .int (.v 3):=by
    rw [List.lookup_cons] at e
    split at e
    ·cases e; rfl
    ·exact ap e
   subst ev
   exact d⟩) fun x i e=>⟨i,e,fun a ea=>fz i a (by
    have:=(List.getElem?_eq_some_iff.mp ea).1
    have sz:as3.length=13:=S4.sz
    (first | decide | lia | omega)) ea⟩
  have S6:=S5.re (ρ':=w5 ns x c bs) (s':=⟨[(S' "mode",.int (.v 3))],g9,kM,[]⟩) (List.range 13) (LS x c) ⟨rfl,rfl,rfl,rfl,rfl,rfl,rfl,rfl,rfl,rfl,rfl,rfl,rfl,rfl,rfl,rfl,rfl,rfl,rfl,rfl,rfl,rfl,rfl⟩
  have sz:as'.length=13:=S5.sz
  rw [ju (n:=13) S5.sz] at S6
  have hga:Gr.add (strip [env.locals] G') h' [cL] ac=none:=by
   unfold Gr.add
   refine aa (if_neg (by simpa using acL)) ?_; exact ga
  have S7:=S6.take (a:=ac) (ao:=.rf 1) hga (fun a m=>of a (by refine aa (List.mem_singleton.mp m) ?_; exact .head _)) (by rw [hbs] at la; exact la)
  have S7:SR w (w5 ns x c bs) (OG w G0) (Gr.add (strip [env.locals] G') h' [cL]) env h' ⟨[(S' "mode",.int (.v 3))],g9,kM++[.rf 1],[]⟩ (as'++[ac]):=S7
  show wpAny _ A (assign (.Name (S' "items") (aS (Cv (xT w.params)))) env (.ref ac)) _ _ _
  refine wpAny_assign_Name (aW (post:=fun f s=>s=jj) (v:=.loc 13) (k:=fun s=>.leaf .nx s) (by refine aa esc ?_; exact (congrArg (fun t=>Tr.ok _ _ t) (zZ w.params)).mpr rfl) S7 ⟨ac,by refine aa (Eq.symm sz) ?_; exact aY,rfl⟩ fun s6 h6 n6 y6 S8=>?_)
  have y6:s6=_:=y6
  subst y6
  have kc:∀o,h'.get? cL=some o->h6.get? cL=some o:=fun o e=>S8.kp _ _ (by unfold Gr.add; refine aa (if_pos (.head _)) ?_; exact e)
  have ec:∃o,h'.get? cL=some o:=let ⟨o,_,_,e,_⟩:=Nm; ⟨o,e⟩
  refine ⟨m,(let ⟨o,a,b,e,r⟩:=Nm; ⟨o,a,b,kc _ e,r⟩),fun h7 hs7=>?_⟩
  have S9:=(S8.drop1 gc ec (let ⟨hb,W,kb⟩:=HB0; ⟨hb,W,fun a o e=>gg a o (kb a o e)⟩) gg (h'':=h7) fun b x m e=>(hs7.2 b fun q=>m (q▸.head _)).trans e).1
  have S10:=S9.grow [1,2,3,4,5,6,13]
  have gl2:=S9.growLe [1,2,3,4,5,6,13]
  have e1:({ jj with ob:=hA [1,2,3,4,5,6,13] 0 jj.ob }:St)=jj:=by exact aa vf rfl
  rw [e1] at S10
  rw [hbs] at hT
  have hl:=hT.len'
  refine q _ [f0,f1,f2] bs nds x c h7 n6 (as'++[ac]) (fun a o e=>gl2 a o (gg a o (gl a o e))) S10 ⟨Fo.le fun a o e=>gl2 a o (gg a o e),hT.mono fun zw zw ⟨b,e,n1,n2⟩=>⟨b,e,n1.le gl2,n2⟩,by (first | decide | lia | omega),by (first | decide | lia | omega)⟩ ⟨hc0,by (first | decide | lia | omega)⟩
end
noncomputable def CL (k1 k2:Hk):Hk:=fun a args ob=>match k1 a args ob with | some r=>some r | none=>k2 a args ob
noncomputable def jk (P:Params) (i j:Nat):List Stmt:=((dW P).drop i).take j
noncomputable def uT (cs:List Nat):Hk:=CL fX (CL (MN cs) (My cs))
noncomputable def rb:List (Str×Nat):=[(S' "heap",0),(S' "font",1),(S' "orders",2),(S' "spots_told",3),(S' "begin",4)]
noncomputable def Gf:List AO:=[.cell (some (.loc 5)),.cell none,.cell none,.cell none,.cell none,.lst [.int (.v 1),.int (.v 2)],.rf 1]
noncomputable def Bf:St:=⟨[(S' "items",.loc 6),(S' "mode",.int (.v 3))],rb,Gf,[]⟩
theorem D8:aN [1,2,3,4,5,6,13] jj Bf=some [.ie (.v 1) (.v 1),.ie (.v 2) (.v 2),.rf 1 1,.ie (.v 3) (.v 3)]:=by kernel_rfl
noncomputable def GF:List (Str×AV):=[(S' "gap",.int (.v 6)),(S' "own",.int (.v 5)),(S' "items",.loc 6),(S' "mode",.int (.v 3))]
noncomputable def E9:St:=⟨GF,rb,Gf,[]⟩
noncomputable def FG (P:Params):VC:=(cD P (uT [1]) 30 (fq P) (jk P 4 2) Bf).vc [0,1,2,3,4,5,6] .nx E9
noncomputable def pv (j:Nat):AV:=.int (.v (20 + j))
noncomputable def t7 (i n:Nat):List AO:=[.tup [pv 16,pv 17],
 .ns [(S' "ratio",.loc n),(S' "order",pv 15),(S' "sign",pv 14),(S' "shift",.int (.c 0)),(S' "items",.loc i),(S' "depth",pv 1),(S' "height",pv 0),(S' "width",pv 13),(S' "kind",.int (.c 2))],
 .inst 389 (n + 1),.tup [pv 18,pv 19],.tup [.loc (n + 2),.loc (n + 3)]]
noncomputable def lw (r t:Nat):AO:=.tup [.int (.c 2),pv 13,pv 0,pv 1,.int (.c 0),pv 14,pv 15,.loc r,.loc t]
noncomputable def zX:List AO:=[.cell (some (.loc 5)),.cell none,.cell none,.cell (some (.loc 14)),.cell none,.lst [.int (.v 1),.int (.v 2)],.rf 1,.rf 1]++t7 7 8++[lw 8 11,.il 201 []]++[.rf 1]++t7 15 16
noncomputable def lW:St:=⟨[(S' "twin",.loc 20),(S' "told",.loc 13),(S' "packed",.loc 12)]++GF,rb,zX,[]⟩
noncomputable def CW (P:Params):VC:=(cD P (uT [1]) 30 (fq P) (jk P 6 3) E9).vc [0,1,2,3,4,5,6,7,8,9,10,11,12,13,14,16,17,18,19,20,21] .nx lW
noncomputable def i5 (vs:List Int) (ls:Nat->List Int) (N:Nat->List Nd) (B:Nat->Bx):Rho :=
 ⟨fun i=>vs.getD i 0,fun k a b c=>if k < 100 then GH k a b c else if k < 120 then (mG (ad (N a.toNat)) (N a.toNat).isEmpty b c).getD (k - 100) 0 else if k=120 then (B a.toNat).s else if k=121 then (B a.toNat).o else if k=122 then (B a.toNat).p else if k=123 then (B a.toNat).q else if k=900 then ((ls a.toNat).length:Int) else 0,ls⟩
section
variable {w:World} {g:Gr} {F:List Addr} {vs:List Int} {ls:Nat->List Int} {cs:List Nat} {N:Nat->List Nd} {B:Nat->Bx}
theorem ik (fo:aU w g F) (it:∀k∈cs,All2 (fun V nd=>∃x,V = .ref x/\bQ g F x nd/\nd.ok) ((ls k).map ak) (N k)) (fit:∀k∈cs,(ad (N k)).fit 20) (len:∀k∈cs,(N k).length<=800) (bo:∀k∈cs,(B k).ok) (pl:∀k∈cs,ls (200 + k)=(bw (B k) (N k)).out) :
  LawE w g F (i5 vs ls N B) cs N B:=by
 refine ⟨fo,it,fit,len,fun k hk j hj m e=>?_,fun k hk=>⟨rfl,rfl,rfl,rfl,bo k hk⟩,pl⟩
 show (if 100 + j < 100 then _ else if 100 + j < 120 then _ else _)=_
 rw [if_neg (by (first | lia | omega)),if_pos (by (first | lia | omega)),Nat.add_sub_cancel_left]
 rfl
theorem nv (L:LawE w g F (i5 vs ls N B) cs N B):ay w (i5 vs ls N B) (OG w g) (uT cs) 81 :=
 ay.or (ay.le (d:=40) (d8 rfl rfl) (by (first | decide | lia | omega))) (ay.or (um L) (ay.le (d:=41) (th L) (by (first | decide | lia | omega))))
end
noncomputable def zv:VC:=VC.req (CE.ilen 1 0) (VC.req (CE.le (IE.c 0) (IE.v 2)) (VC.req (CE.lt (IE.v 2) (IE.c 1000000)) (VC.req (CE.le (IE.c 0) (IE.add (IE.v 2) (IE.c 1))) (VC.req (CE.lt (IE.add (IE.v 2) (IE.c 1)) (IE.c 1000000)) (VC.req (CE.le (IE.c 0) (IE.add (IE.add (IE.v 2) (IE.c 1)) (IE.c 1))) (VC.req (CE.lt (IE.add (IE.add (IE.v 2) (IE.c 1)) (IE.c 1)) (IE.c 1000000)) (VC.req (CE.le (IE.c 0) (IE.add (IE.add (IE.add (IE.v 2) (IE.c 1)) (IE.c 1)) (IE.c 1))) (VC.req (CE.lt (IE.add (IE.add (IE.add (IE.v 2) (IE.c 1)) (IE.c 1)) (IE.c 1)) (IE.c 1000000)) (VC.br (CE.eq (IE.fn 30 (IE.fn 31 (IE.fn 31 (IE.fn 31 (IE.v 1) (IE.v 2) (IE.c 60)) (IE.add (IE.v 2) (IE.c 1)) (IE.c 60)) (IE.add (IE.add (IE.v 2) (IE.c 1)) (IE.c 1)) (IE.c 300)) (IE.add (IE.add (IE.add (IE.v 2) (IE.c 1)) (IE.c 1)) (IE.c 1)) (IE.c 4)) (IE.c 3)) (VC.ok [Ob1.ie (IE.fn 31 (IE.fn 31 (IE.fn 31 (IE.fn 31 (IE.v 1) (IE.v 2) (IE.c 60)) (IE.add (IE.v 2) (IE.c 1)) (IE.c 60)) (IE.add (IE.add (IE.v 2) (IE.c 1)) (IE.c 1)) (IE.c 300)) (IE.add (IE.add (IE.add (IE.v 2) (IE.c 1)) (IE.c 1)) (IE.c 1)) (IE.c 4)) (IE.v 1),Ob1.ie (IE.add (IE.add (IE.add (IE.add (IE.v 2) (IE.c 1)) (IE.c 1)) (IE.c 1)) (IE.c 1)) (IE.v 2),Ob1.rf 1 1,Ob1.ie (IE.mul (IE.c 65536) (IE.sub (IE.fn 30 (IE.fn 31 (IE.fn 31 (IE.v 1) (IE.v 2) (IE.c 60)) (IE.add (IE.v 2) (IE.c 1)) (IE.c 60)) (IE.add (IE.add (IE.v 2) (IE.c 1)) (IE.c 1)) (IE.c 300)) (IE.c 150))) (IE.v 6),Ob1.ie (IE.fn 113 (IE.c 1) (IE.c 1) (IE.c 0)) (IE.v 5),Ob1.ie (IE.v 3) (IE.v 3)]) (VC.br (CE.eq (IE.fn 30 (IE.fn 31 (IE.fn 31 (IE.fn 31 (IE.v 1) (IE.v 2) (IE.c 60)) (IE.add (IE.v 2) (IE.c 1)) (IE.c 60)) (IE.add (IE.add (IE.v 2) (IE.c 1)) (IE.c 1)) (IE.c 300)) (IE.add (IE.add (IE.add (IE.v 2) (IE.c 1)) (IE.c 1)) (IE.c 1)) (IE.c 4)) (IE.c 2)) (VC.ok [Ob1.ie (IE.fn 31 (IE.fn 31 (IE.fn 31 (IE.fn 31 (IE.v 1) (IE.v 2) (IE.c 60)) (IE.add (IE.v 2) (IE.c 1)) (IE.c 60)) (IE.add (IE.add (IE.v 2) (IE.c 1)) (IE.c 1)) (IE.c 300)) (IE.add (IE.add (IE.add (IE.v 2) (IE.c 1)) (IE.c 1)) (IE.c 1)) (IE.c 4)) (IE.v 1),Ob1.ie (IE.add (IE.add (IE.add (IE.add (IE.v 2) (IE.c 1)) (IE.c 1)) (IE.c 1)) (IE.c 1)) (IE.v 2),Ob1.rf 1 1,Ob1.ie (IE.c 0) (IE.v 6),Ob1.ie (IE.fn 113 (IE.c 1) (IE.c 1) (IE.c 0)) (IE.v 5),Ob1.ie (IE.v 3) (IE.v 3)]) (VC.br (CE.eq (IE.fn 30 (IE.fn 31 (IE.fn 31 (IE.fn 31 (IE.v 1) (IE.v 2) (IE.c 60)) (IE.add (IE.v 2) (IE.c 1)) (IE.c 60)) (IE.add (IE.add (IE.v 2) (IE.c 1)) (IE.c 1)) (IE.c 300)) (IE.add (IE.add (IE.add (IE.v 2) (IE.c 1)) (IE.c 1)) (IE.c 1)) (IE.c 4)) (IE.c 1)) (VC.ok [Ob1.ie (IE.fn 31 (IE.fn 31 (IE.fn 31 (IE.fn 31 (IE.v 1) (IE.v 2) (IE.c 60)) (IE.add (IE.v 2) (IE.c 1)) (IE.c 60)) (IE.add (IE.add (IE.v 2) (IE.c 1)) (IE.c 1)) (IE.c 300)) (IE.add (IE.add (IE.add (IE.v 2) (IE.c 1)) (IE.c 1)) (IE.c 1)) (IE.c 4)) (IE.v 1),Ob1.ie (IE.add (IE.add (IE.add (IE.add (IE.v 2) (IE.c 1)) (IE.c 1)) (IE.c 1)) (IE.c 1)) (IE.v 2),Ob1.rf 1 1,Ob1.ie (IE.neg (IE.fn 30 (IE.fn 31 (IE.v 1) (IE.v 2) (IE.c 60)) (IE.add (IE.v 2) (IE.c 1)) (IE.c 60))) (IE.v 6),Ob1.ie (IE.fn 113 (IE.c 1) (IE.c 1) (IE.c 0)) (IE.v 5),Ob1.ie (IE.v 3) (IE.v 3)]) (VC.br (CE.eq (IE.fn 30 (IE.fn 31 (IE.fn 31 (IE.fn 31 (IE.v 1) (IE.v 2) (IE.c 60)) (IE.add (IE.v 2) (IE.c 1)) (IE.c 60)) (IE.add (IE.add (IE.v 2) (IE.c 1)) (IE.c 1)) (IE.c 300)) (IE.add (IE.add (IE.add (IE.v 2) (IE.c 1)) (IE.c 1)) (IE.c 1)) (IE.c 4)) (IE.c 0)) (VC.ok [Ob1.ie (IE.fn 31 (IE.fn 31 (IE.fn 31 (IE.fn 31 (IE.v 1) (IE.v 2) (IE.c 60)) (IE.add (IE.v 2) (IE.c 1)) (IE.c 60)) (IE.add (IE.add (IE.v 2) (IE.c 1)) (IE.c 1)) (IE.c 300)) (IE.add (IE.add (IE.add (IE.v 2) (IE.c 1)) (IE.c 1)) (IE.c 1)) (IE.c 4)) (IE.v 1),Ob1.ie (IE.add (IE.add (IE.add (IE.add (IE.v 2) (IE.c 1)) (IE.c 1)) (IE.c 1)) (IE.c 1)) (IE.v 2),Ob1.rf 1 1,Ob1.ie (IE.fn 30 (IE.v 1) (IE.v 2) (IE.c 60)) (IE.v 6),Ob1.ie (IE.fn 113 (IE.c 1) (IE.c 1) (IE.c 0)) (IE.v 5),Ob1.ie (IE.v 3) (IE.v 3)]) VC.fail))))))))))))
theorem Ay (P:Params):FG P=zv:=by kernel_rfl
noncomputable def CG (m e:IE) (z:VC):VC:=.req (.le (.c 0) m) (.req (.le m (.c 1)) (.req (.le (.c (-100000000)) e) (.req (.le e (.c 100000000)) z)))
noncomputable def fK (k:Nat) (b:Int) (m e:IE):IE:=.fn k (.c b) m e
noncomputable def GS (b:Int) (m e:IE) (z:VC):VC:=.req (.eq (fK 116 b m e) (fK 122 b (.c 0) (.c 0))) (.req (.eq (fK 117 b m e) (fK 123 b (.c 0) (.c 0))) (.req (.eq (fK 115 b m e) (fK 121 b (.c 0) (.c 0))) (.req (.eq (fK 114 b m e) (fK 120 b (.c 0) (.c 0))) z)))
noncomputable def GD (b:Int) (m e:IE) (z:VC):VC:=.req (.eq (.c 2) (.c 2)) (.req (.eq (fK 113 b m e) (.v 33)) (.req (.eq (fK 100 b m e) (.v 20)) (.req (.eq (fK 101 b m e) (.v 21)) (.req (.eq (.c 0) (.c 0)) (.req (.eq (fK 114 b m e) (.v 34)) (.req (.eq (fK 115 b m e) (.v 35)) (.req (.eq (fK 116 b m e) (.v 36)) (.req (.eq (fK 117 b m e) (.v 37)) (.req (.eq (fK 118 b m e) (.v 38)) (.req (.eq (fK 119 b m e) (.v 39)) z))))))))))
noncomputable def eG:IE:=.add (.v 5) (.v 6)
noncomputable def M9 (m e m' e':IE):VC:=.ok [.ie (.v 1) (.v 1),.ie (.v 2) (.v 2),.rf 1 1,.rf 1 1,.ie (fK 116 1 m e) (.v 36),.ie (fK 117 1 m e) (.v 37),.ie (fK 115 1 m e) (.v 35),.ie (fK 114 1 m e) (.v 34),.ie (.c 0) (.c 0),.ie (fK 101 1 m e) (.v 21),.ie (fK 100 1 m e) (.v 20),.ie (fK 113 1 m e) (.v 33),.ie (.c 2) (.c 2),.ie (fK 118 1 m e) (.v 38),.ie (fK 119 1 m e) (.v 39),.ie (.c 2) (.c 2),.ie (fK 113 1 m e) (.v 33),.ie (fK 100 1 m e) (.v 20),.ie (fK 101 1 m e) (.v 21),.ie (.c 0) (.c 0),.ie (fK 114 1 m e) (.v 34),.ie (fK 115 1 m e) (.v 35),.il 201 [] 201 [],.rf 1 1,.ie (fK 116 1 m' e') (.v 36),.ie (fK 117 1 m' e') (.v 37),.ie (fK 115 1 m' e') (.v 35),.ie (fK 114 1 m' e') (.v 34),.ie (.c 0) (.c 0),.ie (fK 101 1 m' e') (.v 21),.ie (fK 100 1 m' e') (.v 20),.ie (fK 113 1 m' e') (.v 33),.ie (.c 2) (.c 2),.ie (fK 118 1 m' e') (.v 38),.ie (fK 119 1 m' e') (.v 39),.ie (.v 6) (.v 6),.ie (.v 5) (.v 5),.ie (.v 3) (.v 3)]
noncomputable def HX (e e':IE):VC:=CG (.v 3) e (GS 1 (.v 3) e (.req (.ilen 1 0) (CG (.sub (.c 1) (.v 3)) e' (M9 (.v 3) e (.sub (.c 1) (.v 3)) e'))))
noncomputable def zt:VC:=.req (.ilen 1 0) (.br (.eq (.v 3) (.c 1)) (HX (.v 6) eG) (HX eG (.v 6)))
theorem Bz (P:Params):CW P=zt:=by kernel_rfl
def jH (ρ ρ':Rho) (k:Nat) (m e:IE):Prop:=∀j,j∈[0,1,13,14,15,16,17,18,19]->ρ.f (100 + j) k (m.den ρ) (e.den ρ)=ρ'.v (20 + j)
def BG (ρ ρ':Rho) (k:Nat):Prop:=ρ.f 120 k 0 0=ρ'.v 34/\ρ.f 121 k 0 0=ρ'.v 35/\ρ.f 122 k 0 0=ρ'.v 36/\ρ.f 123 k 0 0=ρ'.v 37
theorem iK {ρ ρ':Rho} {m e:IE} {z:VC} (a:m.den ρ=0\/m.den ρ=1) (b : -100000000<=e.den ρ/\e.den ρ<=100000000) (k:z.den ρ ρ'):(CG m e z).den ρ ρ' :=
 have h:0<=m.den ρ/\m.den ρ<=1:=a.elim (fun e=>by refine aa e ?_; decide) fun e=>by refine aa e ?_; decide
 ⟨h.1,h.2,b.1,b.2,k⟩
theorem nQ {ρ ρ':Rho} {k:Nat} {m e:IE} {z:VC} (h:jH ρ ρ k m e) (y:z.den ρ ρ'):(GD k m e z).den ρ ρ' :=
 ⟨rfl,h 13 (by decide),h 0 (by decide),h 1 (by decide),rfl,h 14 (by decide),h 15 (by decide),h 16 (by decide),h 17 (by decide),h 18 (by decide),h 19 (by decide),y⟩
theorem mC {ρ ρ' ρ2:Rho} {k:Nat} {m e:IE} {z:VC} (h:jH ρ ρ2 k m e) (K:BG ρ ρ2 k) (y:z.den ρ ρ'):(GS k m e z).den ρ ρ' :=
 ⟨(h 16 (by decide)).trans K.2.2.1.symm,(h 17 (by decide)).trans K.2.2.2.symm,(h 15 (by decide)).trans K.2.1.symm,(h 14 (by decide)).trans K.1.symm,y⟩
theorem AH {own gap:Int} (hg : -9830400<=gap/\gap<=9830400) (ht : -72<=own/\own<=35100000):(-100000000<=gap/\gap<=100000000)/\-100000000<=own + gap/\own + gap<=100000000:=by omega
theorem ut {ρ ρ':Rho} {e e':IE} (h3:(IE.v 3).den ρ=0\/(IE.v 3).den ρ=1) (h3':(IE.sub (.c 1) (.v 3)).den ρ=0\/(IE.sub (.c 1) (.v 3)).den ρ=1) (he : -100000000<=e.den ρ/\e.den ρ<=100000000) (he' : -100000000<=e'.den ρ/\e'.den ρ<=100000000) (h:jH ρ ρ' (1:Nat) (.v 3) e) (g:jH ρ ρ' (1:Nat) (.sub (.c 1) (.v 3)) e') (K:BG ρ ρ' (1:Nat)) (hl:(CE.ilen 1 0).den ρ)
  (b1:ρ.v 1=ρ'.v 1) (b2:ρ.v 2=ρ'.v 2) (b6:ρ.v 6=ρ'.v 6) (b5:ρ.v 5=ρ'.v 5) (b3:ρ.v 3=ρ'.v 3) (l1:ρ.l 1=ρ'.l 1) (l2:(Ob1.il 201 [] 201 []).den ρ ρ'):(HX e e').den ρ ρ':=by
 have r:=fun j hj=>h j hj; have s:=fun j hj=>g j hj
 exact iK h3 he (mC h K ⟨hl,iK h3' he' ⟨b1,b2,l1,l1,r 16 (by decide),r 17 (by decide),r 15 (by decide),r 14 (by decide),rfl,r 1 (by decide),r 0 (by decide),r 13 (by decide),rfl,r 18 (by decide),r 19 (by decide),rfl,r 13 (by decide),r 0 (by decide),r 1 (by decide),rfl,r 14 (by decide),r 15 (by decide),l2,l1,
  s 16 (by decide),s 17 (by decide),s 15 (by decide),s 14 (by decide),rfl,s 1 (by decide),s 0 (by decide),s 13 (by decide),rfl,s 18 (by decide),s 19 (by decide),b6,b5,b3⟩⟩)
theorem Bl {t:Tot} {em:Bool} {m a m' a':Int} (e:bJ t m a=bJ t m' a') (j:Nat) (h1:j≠11) (h2:j≠12):(mG t em m a).getD j 0=(mG t em m' a').getD j 0:=by
 unfold mG
 refine aa e ?_
 match j,h1,h2 with
 | 0,_,_ | 1,_,_ | 2,_,_ | 3,_,_ | 4,_,_ | 5,_,_ | 6,_,_ | 7,_,_ | 8,_,_ | 9,_,_ | 10,_,_ | 13,_,_ | 14,_,_ | 15,_,_ | 16,_,_ | 17,_,_ | 18,_,_ | 19,_,_=>rfl
 | 11,h,_=>exact absurd rfl h
 | 12,_,h=>exact absurd rfl h
 | n + 20,_,_=>rfl
noncomputable def qa (x c:Int):Int :=
 if bu (cb (cb (cb x c 60) (c + 1) 60) (c + 1 + 1) 300) (c + 1 + 1 + 1) 4=3 then 65536 * (bu (cb (cb x c 60) (c + 1) 60) (c + 1 + 1) 300 - 150)
 else if bu (cb (cb (cb x c 60) (c + 1) 60) (c + 1 + 1) 300) (c + 1 + 1 + 1) 4=2 then 0
 else if bu (cb (cb (cb x c 60) (c + 1) 60) (c + 1 + 1) 300) (c + 1 + 1 + 1) 4=1 then -bu (cb x c 60) (c + 1) 60
 else bu x c 60
theorem yt (x c:Int) : -9830400<=qa x c/\qa x c<=9830400:=by
 have h1:=bC (a:=x) (c:=c) (m:=60) (by (first | decide | lia | omega))
 have h2:=bC (a:=cb x c 60) (c:=c + 1) (m:=60) (by (first | decide | lia | omega))
 have h3:=bC (a:=cb (cb x c 60) (c + 1) 60) (c:=c + 1 + 1) (m:=300) (by (first | decide | lia | omega))
 unfold qa
 repeat' split
 all_goals (first | decide | lia | omega)
noncomputable def bU (x c md own gap b e u v:Int) (P:List Int):List Int:=[0,x,c,md,0,own,gap,0,b,e,0,u,v,0,0,0,0,0,0,0]++P
noncomputable def MT (bs:List Int) (nds:List Nd) (gap:Int) (k:Nat):List Int:=if k=1 then bs else if k=201 then av (aI (ad nds) gap) nds else []
noncomputable def PV (nds:List Nd) (gap:Int):List Int:=mG (ad nds) nds.isEmpty 1 gap
theorem fY {x c md own gap b e u v:Int} {P:List Int} (j:Nat):(bU x c md own gap b e u v P).getD (20 + j) 0=P.getD j 0:=by
 unfold bU
 refine aa (List.getD_eq_getElem?_getD) (aa (List.getElem?_append_right (Nat.le_add_right 20 j)) (aa (List.getD_eq_getElem?_getD) ?_))
 exact congrArg (fun i=>(P[i]?).getD 0) (Nat.add_sub_cancel_left 20 j)
theorem tH {vs:List Int} {ls:Nat->List Int} {N:Nat->List Nd} {B:Nat->Bx} {nds:List Nd} {k:Nat} {gap m a:Int} (ht:ad (N k)=ad nds) (hm:(N k).isEmpty=nds.isEmpty) (hw:bJ (ad nds) m a=bJ (ad nds) 1 gap) (j:Nat) (hj:j∈[0,1,13,14,15,16,17,18,19]):(i5 vs ls N B).f (100 + j) k m a=(PV nds gap).getD j 0:=by
 have rng:∀j,j∈[0,1,13,14,15,16,17,18,19]->100 + j < 120/\j≠11/\j≠12:=by decide
 show (if 100 + j < 100 then _ else if 100 + j < 120 then _ else _)=_
 rw [if_neg (Nat.not_lt.mpr (Nat.le_add_right 100 j)),if_pos (rng j hj).1,Nat.add_sub_cancel_left]
 show (mG (ad (N k)) (N k).isEmpty m a).getD j 0=_
 refine aa ht (aa hm ?_)
 exact Bl hw j (rng j hj).2.1 (rng j hj).2.2
noncomputable def bm (bs:List Int) (nds:List Nd) (G:Int) (vs:List Int):Rho:=i5 vs (MT bs nds G) (fun zw=>nds) fun zw=>aI (ad nds) G
section
variable {w:World} {A:Around} {gs:Array GenState} {dr:Drawn} {os:OsState} {G:Gr} {F:List Addr} {bs:List Int} {nds:List Nd} {env:Env} {h:Heap} {n:Nat} {as:List Addr}
theorem Drawn'.fit (D:Drawn' w G F bs nds):(ad nds).fit 9:=by
 have key:∀{Us:List Value} {nds:List Nd},All2 (fun V nd=>∃b,V = .ref b/\bQ G F b nd/\nd.ok/\nd.bd/\nd.k≠.pck) Us nds->∀nd∈nds,nd.bd/\nd.k≠.pck:=by
  intro Us nds x
  induction x with
  | nil=>intro nd m; cases m
  | cons p _ ih =>
   intro nd m
   cases m with
   | head=>obtain ⟨b,_,_,_,q⟩:=p; exact q
   | tail _ m=>exact ih nd m
 obtain ⟨f1,f2,f3,f4⟩:=jp (key D.it)
 have:=D.hi
 exact ⟨f1,f2,by (first | lia | omega),fun x m=>by have:=f4 x m; (first | lia | omega)⟩
theorem Tot.fit.up {t:Tot} {m k:Nat} (f:t.fit m) (h:m<=k):t.fit k:=by
 apply bc;intro ng
 obtain ⟨f1,f2,f3,f4⟩:=f
 apply ng;clear ng
 exact ⟨f1,f2,by (first | lia | omega),fun x m=>by have:=f4 x m; (first | lia | omega)⟩
theorem Drawn'.len (D:Drawn' w G F bs nds):bs.length=nds.length:=by
 have:=D.it.len'
 rwa [List.length_map] at this
theorem Drawn'.law (D:Drawn' w G F bs nds) {gap:Int} (hg : -9830400<=gap/\gap<=9830400) {vs:List Int}:LawE w G F (bm bs nds gap vs) [1] (fun zw=>nds) fun zw=>aI (ad nds) gap:=by
 have one:∀k∈[1],k=1:=fun k m=>List.mem_singleton.mp m
 refine ik D.fo (fun k m=>?_) (fun k m=>D.fit.up (by (first | decide | lia | omega))) (fun k m=>by have:=D.hi; (first | decide | lia | omega)) (fun k m=>cI D.fit (by (first | decide | lia | omega)) (by (first | decide | lia | omega))) fun k m=>?_
 ·refine aa (one k m) ?_; exact D.it.mono fun zw zw ⟨b,e,a,b1,_⟩=>⟨b,e,a,b1⟩
 ·rw [one k m,cr]; rfl
theorem wW {x:Int} {P:Prop} (h:0<=x/\x < 4) (h0:¬x=0) (h1:¬x=1) (h2:¬x=2) (h3:¬x=3):P:=by exfalso; (first | lia | omega)
theorem ID {x c md:Int} (hc:0<=c/\c<=200) (hb:bs.length<=9) {G0:Int}:zv.den (bm bs nds G0 (bU x c md 0 0 0 0 0 0 [])) (bm bs nds G0 (bU (cb (cb (cb (cb x c 60) (c + 1) 60) (c + 1 + 1) 300) (c + 1 + 1 + 1) 4) (c + 1 + 1 + 1 + 1) md (ad nds).n (qa x c) 0 0 0 0 [])):=by
 have e113:(ad nds).n + 0=(ad nds).n:=Int.add_zero _
 have h4:=bC (a:=cb (cb (cb x c 60) (c + 1) 60) (c + 1 + 1) 300) (c:=c + 1 + 1 + 1) (m:=4) (by (first | lia | omega))
 refine ⟨by show bs.length + 0<=1000; (first | lia | omega),by show (0:Int)<=c; (first | lia | omega),by show c < 1000000; (first | lia | omega),by show (0:Int)<=c + 1; (first | lia | omega),by show c + 1 < 1000000; (first | lia | omega),by show (0:Int)<=c + 1 + 1; (first | lia | omega),by show c + 1 + 1 < 1000000; (first | lia | omega),by show (0:Int)<=c + 1 + 1 + 1; (first | lia | omega),by show c + 1 + 1 + 1 < 1000000; (first | lia | omega),fun h3=>⟨rfl,rfl,rfl,(if_pos h3).symm,e113,rfl⟩,fun h3=>⟨fun h2=>⟨rfl,rfl,rfl,((if_neg h3).trans (if_pos h2)).symm,e113,rfl⟩,fun h2=>⟨fun h1=>⟨rfl,rfl,rfl,((if_neg h3).trans ((if_neg h2).trans (if_pos h1))).symm,e113,rfl⟩,fun h1=>⟨fun h0=>⟨rfl,rfl,rfl,((if_neg h3).trans ((if_neg h2).trans (if_neg h1))).symm,e113,rfl⟩,fun h0=>?_⟩⟩⟩⟩
 clear e113
 have h0:¬_=(0:Int):=h0; have h1:¬_=(1:Int):=h1; have h2:¬_=(2:Int):=h2; have h3:¬_=(3:Int):=h3
 exact wW h4 h0 h1 h2 h3
end
section
variable {w:World} {A:Around} {gs:Array GenState} {dr:Drawn} {os:OsState} {G:Gr} {F:List Addr} {bs:List Int} {nds:List Nd} {env:Env} {h:Heap} {n:Nat} {as:List Addr}
theorem Lx {x c md gap:Int} (hm:md=0\/md=1) (hb:bs.length<=9) (hg : -9830400<=gap/\gap<=9830400) (ht : -72<=(ad nds).n/\(ad nds).n<=35100000):zt.den (bm bs nds gap (bU x c md (ad nds).n gap 0 0 0 0 [])) (bm bs nds gap (bU x c md (ad nds).n gap 0 0 0 0 (PV nds gap))):=by
 have w1:bJ (ad nds) 0 ((ad nds).n + gap)=bJ (ad nds) 1 gap:=by unfold bJ; rw [if_pos rfl,if_neg (by decide)]
 have eg:bJ (ad nds) 1 gap - (ad nds).n=gap:=by unfold bJ; rw [if_neg (by decide),Int.add_comm,Int.add_sub_cancel]
 have K:BG (bm bs nds gap (bU x c md (ad nds).n gap 0 0 0 0 [])) (bm bs nds gap (bU x c md (ad nds).n gap 0 0 0 0 (PV nds gap))) (1:Nat):=by
  have g:∀i,bh (ad nds) gap i=bh (ad nds) (bJ (ad nds) 1 gap - (ad nds).n) i:=fun i=>by exact aa eg rfl
  exact ⟨g 12,g 13,g 14,g 15⟩
 have S:∀{m e:IE},bJ (ad nds) (m.den (bm bs nds gap (bU x c md (ad nds).n gap 0 0 0 0 []))) (e.den (bm bs nds gap (bU x c md (ad nds).n gap 0 0 0 0 [])))=bJ (ad nds) 1 gap->jH (bm bs nds gap (bU x c md (ad nds).n gap 0 0 0 0 [])) (bm bs nds gap (bU x c md (ad nds).n gap 0 0 0 0 (PV nds gap))) (1:Nat) m e:=fun h j hj=>(tH (k:=1) rfl rfl h j hj).trans (fY j).symm
 have bb:=AH hg ht
 have hl:bs.length + 0<=1000:=Nat.le_trans hb (by decide)
 induction hm with
 | inl h =>
  subst h
  exact ⟨hl,fun z=>absurd (show (0:Int)=1 from z) (by decide),fun zw=>ut (.inl rfl) (.inr rfl) bb.2 bb.1 (S w1) (S rfl) K hl rfl rfl rfl rfl rfl rfl rfl⟩
 | inr h =>
  subst h
  exact ⟨hl,fun zw=>ut (.inr rfl) (.inl rfl) bb.1 bb.2 (S rfl) (S w1) K hl rfl rfl rfl rfl rfl rfl rfl,fun z=>absurd rfl z⟩
theorem qt (P:Params):(dW P).drop 4=jk P 4 2++(jk P 6 3++(dW P).drop 9):=by kernel_rfl
theorem Et {ns:List Int} {x c:Int} (HB0:HB w (OG w G)) (S:SR w (w5 ns x c bs) (OG w G) G env h jj as) (D:Drawn' w G F bs nds) (hc:0<=c/\c<=200) (esc:env.scope=fq w.params) (R:Room A 200) {Q:Flow->Shared->Prop} {E:Value->Shared->Prop}
  (q:∀gap x c h' n' as',SR w (bm bs nds gap (bU x c (kI ns) (ad nds).n gap 0 0 0 0 (PV nds gap))) (OG w G) G env h' lW as'->(-9830400<=gap/\gap<=9830400)->0<=c/\c<=300->wpAny (model pr w) A (execs ((dW w.params).drop 9) env) Q E ⟨h',gs,dr,n',os⟩) :
  wpAny (model pr w) A (execs ((dW w.params).drop 4) env) Q E ⟨h,gs,dr,n,os⟩:=by
 have hg:=yt x c
 have hl:=D.len
 have hi:=D.hi
 have HW:∀{vs},H2 w (bm bs nds (qa x c) vs) (OG w G) (uT [1]) 81:=⟨HB0,by (first | decide | lia | omega),nv (D.law hg)⟩
 have S0:=S.re (ρ':=bm bs nds (qa x c) (bU x c (kI ns) 0 0 0 0 0 0 [])) (s':=Bf) [1,2,3,4,5,6,13] D8 ⟨rfl,rfl,rfl,rfl⟩
 rw [qt]
 refine aH (iM HW esc (Ay w.params) (R.le (by (first | decide | lia | omega))) S0 (ID hc (by (first | decide | lia | omega))) fun h1 as1 n1 S1 p1=>?_)
 refine aH (iM HW esc (Bz w.params) (R.le (by (first | decide | lia | omega))) S1 (Lx (j9 ns) (by (first | decide | lia | omega)) hg (by have:=D.fit.n; (first | decide | lia | omega))) fun h2 as2 n2 S2 p2=>?_)
 exact q _ _ _ h2 n2 _ S2 hg (by (first | decide | lia | omega))
end
noncomputable def Jb:Expr->List Expr | .BoolOp _ l _=>l | _=>[]
noncomputable def Mw:Expr->Pos | .BoolOp _ _ p=>p | e=>e.pos
noncomputable def Mq:Expr->Pos | .Compare _ _ _ p=>p | e=>e.pos
noncomputable def zF (P:Params):Stmt:=(dW P).getD 9 (.Pass default)
noncomputable def K7 (P:Params):Expr:=(Jb (ch (zF P))).getD 0 (ch (zF P))
noncomputable def yQ (P:Params):Expr:=LC (K7 P)
noncomputable def ri (P:Params):Expr:=ED (K7 P)
noncomputable def M1 (P:Params):Expr:=.BoolOp .Or ((Jb (ch (zF P))).drop 1) (Mw (ch (zF P)))
theorem wQ (P:Params):(dW P).drop 9 = .If (.BoolOp .Or (.Compare (.Call (.Name (bj (ax (yQ P))) (aS (ax (yQ P)))) [bq (yQ P)] [] (cg (yQ P))) [.NotEq] [.Call (.Name (bj (ax (ri P))) (aS (ax (ri P)))) [bq (ri P)] [] (cg (ri P))] (Mq (K7 P))::(Jb (ch (zF P))).drop 1) (Mw (ch (zF P)))) (tQ (zF P)) [] (rh (zF P))::(dW P).drop 10:=by kernel_rfl
noncomputable def k7:List Nat:=[0,1,2,3,4,5,6]
noncomputable def kN:List AO:=[.cell (some (.loc 5)),.cell none,.cell none,.cell (some (.loc 14)),.cell none,.lst [.int (.v 1),.int (.v 2)],.rf 1,.fz (.rf 1)]++(t7 7 8++[lw 8 11,AO.il 201 []]++[AO.rf 1]++t7 15 16:List AO).map AO.fz
theorem CU:hA k7 0 zX=kN:=by kernel_rfl
noncomputable def bV:St:=⟨[(S' "twin",.loc 20),(S' "told",.loc 13),(S' "packed",.loc 12)]++GF,rb,kN,[]⟩
theorem Ki (P:Params):bB P aA 12 (fq P) (.Name (bj (ax (yQ P))) (aS (ax (yQ P)))) bV = .leaf (.rt (.glb (.ref 545))) bV/\bB P aA 12 (fq P) (.Name (bj (ax (ri P))) (aS (ax (ri P)))) bV = .leaf (.rt (.glb (.ref 545))) bV:=⟨by kernel_rfl,by kernel_rfl⟩
noncomputable def k1 (vs:List AV) (s:St):Tr:=match vs with | [v1]=>.leaf (.rt v1) s | _=>.fail
theorem tD {ρ:Rho} {vs:List AV} {s s0:St} {u1:AV} (y:(k1 vs s).ok ρ fun f s'=>f = .rt u1/\s'=s0):vs = [u1]/\s=s0:=by
 induction vs using List.casesOn with
 | nil=>exact y.elim
 | cons v1 vs=>induction vs using List.casesOn with
  | cons v2 vs=>exact y.elim
  | nil=>refine aa (show v1=u1 from Fl.rt.inj y.1) ?_; exact ⟨rfl,y.2⟩
theorem FA (P:Params) (k:List AV->St->Tr):m7 (fJ P aA 12) (fq P) [bq (yQ P)] bV k=k [.loc 18] bV/\m7 (fJ P aA 12) (fq P) [bq (ri P)] bV k=k [.loc 10] bV:=⟨by kernel_rfl,by kernel_rfl⟩
theorem K0 (P:Params):([bq (yQ P)].all fun e=>!aK e)=true/\([bq (ri P)].all fun e=>!aK e)=true/\behindInMarks .NotEq (.Call (.Name (bj (ax (ri P))) (aS (ax (ri P)))) [bq (ri P)] [] (cg (ri P)))=false:=⟨by kernel_rfl,by kernel_rfl,rfl⟩
theorem Io (P:Params):kO P aA 20 (fq P) (M1 P) bV = .req (.eq (.v 38) (.v 38)) (.req (.eq (.v 39) (.v 39)) (.br (.eq (.v 33) (.add (.v 5) (.v 6))) (.leaf (.rt (.bool false)) bV) (.leaf (.rt (.bool true)) bV))):=by kernel_rfl
noncomputable def tu (i n x:Nat):Option Nat:=if x=n then some 0 else if x=n + 1 then some 1 else if x=n + 2 then some 2 else if x=i then some 3 else none
noncomputable def yv (i n:Nat):AO:=.ns [(S' "ratio",.loc n),(S' "order",pv 15),(S' "sign",pv 14),(S' "shift",.int (.c 0)),(S' "items",.loc i),(S' "depth",pv 1),(S' "height",pv 0),(S' "width",pv 13),(S' "kind",.int (.c 2))]
noncomputable def tU:AO:=.ns [(S' "ratio",.loc 0),(S' "order",.int (.v 5)),(S' "sign",.int (.v 4)),(S' "shift",.int (.v 3)),(S' "items",.loc 3),(S' "depth",.int (.v 2)),(S' "height",.int (.v 1)),(S' "width",.int (.v 0)),(S' "kind",.int (.c 2))]
noncomputable def lu:List Ob1:=[.ie (.v 36) (.v 6),.ie (.v 37) (.v 7)]
noncomputable def mr:List Ob1:=[.ie (.v 35) (.v 5),.ie (.v 34) (.v 4),.ie (.c 0) (.v 3),.ie (.v 21) (.v 2),.ie (.v 20) (.v 1),.ie (.v 33) (.v 0),.ie (.c 2) (.c 2)]
theorem A9:fF (tu 7 8) (.tup [pv 16,pv 17]) (.tup [.int (.v 6),.int (.v 7)])=some lu/\fF (tu 7 8) (yv 7 8) tU=some mr/\fF (tu 7 8) (.inst 389 9) (.inst 389 1)=some []:=⟨by kernel_rfl,by kernel_rfl,by kernel_rfl⟩
theorem Ag:fF (tu 15 16) (.tup [pv 16,pv 17]) (.tup [.int (.v 6),.int (.v 7)])=some lu/\fF (tu 15 16) (yv 15 16) tU=some mr/\fF (tu 15 16) (.inst 389 17) (.inst 389 1)=some []:=⟨by kernel_rfl,by kernel_rfl,by kernel_rfl⟩
noncomputable def vK:List AO:=[.cell (some (.loc 5)),.cell none,.cell none,.cell (some (.loc 10)),.cell none,.lst [.int (.v 1),.int (.v 2)],.rf 1,.fz (.tup [pv 16,pv 17]),.fz (.tup [pv 18,pv 19]),.fz (lw 7 8),.fz (.il 201 [])]
noncomputable def gP:St:=⟨(S' "told",.loc 9)::GF,rb,vK,[]⟩
noncomputable def wL:List Ob1:=[.ie (.v 1) (.v 1),.ie (.v 2) (.v 2),.rf 1 1,.ie (.v 36) (.v 36),.ie (.v 37) (.v 37),.ie (.v 38) (.v 38),.ie (.v 39) (.v 39),.ie (.c 2) (.c 2),.ie (.v 33) (.v 33),.ie (.v 20) (.v 20),.ie (.v 21) (.v 21),.ie (.c 0) (.c 0),.ie (.v 34) (.v 34),.ie (.v 35) (.v 35),.il 201 [] 201 [],.ie (.v 6) (.v 6),.ie (.v 5) (.v 5),.ie (.v 3) (.v 3)]
theorem DV:hA k7 0 vK=vK:=by kernel_rfl
theorem FF:aN [0,1,2,3,4,5,6,8,11,13,14] bV gP=some wL:=by kernel_rfl
section
variable {w:World} {A:Around} {gs:Array GenState} {dr:Drawn} {os:OsState} {G:Gr} {F:List Addr} {bs:List Int} {nds:List Nd} {env:Env} {h:Heap} {n:Nat} {as:List Addr}
theorem t5 {ρ:Rho} {g:Gr} {s:St} {i n:Nat} {vs:List Int} (S:SR w ρ (OG w g) G env h s as) (e0:s.ob[n]? = some (.fz (.tup [pv 16,pv 17]))) (e1:s.ob[n + 1]? = some (.fz (yv i n))) (e2:s.ob[n + 2]? = some (.fz (.inst 389 (n + 1))))
  (rn:fF (tu i n) (.tup [pv 16,pv 17]) (.tup [.int (.v 6),.int (.v 7)])=some lu/\fF (tu i n) (yv i n) tU=some mr/\fF (tu i n) (.inst 389 (n + 1)) (.inst 389 1)=some []) (o1:bE ρ (bv vs) lu) (o2:bE ρ (bv vs) mr) {a:Addr} (ea:as[i]? = some a):∃b,as[n + 2]? = some b/\zl h.get? b a vs:=by
 apply bc;intro ng
 obtain ⟨a0,f0,x0,-⟩:=S.get e0
 obtain ⟨a1,f1,x1,-⟩:=S.get e1
 obtain ⟨a2,f2,x2,-⟩:=S.get e2
 apply ng;clear ng
 have hm:Mp (tu i n) as [a0,a1,a2,a]:=by
  intro x y ex b eb
  unfold tu at ex
  split at ex
  ·rename_i z; subst z; cases ex; rw [f0] at eb; exact eb
  ·split at ex
   ·rename_i z; subst z; cases ex; rw [f1] at eb; exact eb
   ·split at ex
    ·rename_i z; subst z; cases ex; rw [f2] at eb; exact eb
    ·split at ex
     ·rename_i z; subst z; cases ex; rw [ea] at eb; exact eb
     ·exact ap ex
 have y0:=bL (ρ:=ρ) (ρ':=bv vs) hm rn.1 o1 x0
 have y1:=bL (ρ:=ρ) (ρ':=bv vs) hm rn.2.1 o2 x1
 have y2:=bL (ρ:=ρ) (ρ':=bv vs) (o:=.inst 389 (n + 1)) hm rn.2.2 trivial x2
 have kk:∀a x,g a=some x->h.get? a=some x:=fun a x e=>S.kp _ _ (S.og _ _ e)
 exact ⟨a2,f2,a0,a1,.cons (y0.keep .refl fun x e=>kk _ _ e) (.cons (y1.keep .refl fun x e=>kk _ _ e) (.cons (y2.keep .refl fun x e=>kk _ _ e) .nil))⟩
theorem EK {ts:List PT} {d:Nat} {V U:Value} {Er:Value->Shared->Prop} {Q:Value->Shared->Prop} (hu:A.units + (d + 2) < cLine) (x:jh h.get? (d + 1) (.tup ts) V) (y:jh h.get? (d + 1) (.tup ts) U) (q:Q (.bool false) ⟨h,gs,dr,n,os⟩) :
  wpAny (model pr w) A (compareOp .NotEq V U) Q Er ⟨h,gs,dr,n,os⟩:=by
 apply bc;intro ng
 obtain ⟨a,Vs,rfl,z1,x⟩:=x; obtain ⟨b,Us,rfl,z2,y⟩:=y
 apply ng;clear ng
 have lx:=x.len; have ly:=y.len
 refine oG (op:=.NotEq) (.inr rfl) (by (first | lia | omega)) z1 z2 (by (first | lia | omega)) (fun j h1 h2=>?_) q
 apply bc;intro ng
 obtain ⟨v,w1,w2⟩:=x.rget (List.getElem?_eq_getElem h1)
 obtain ⟨u,w3,w4⟩:=y.rget (List.getElem?_eq_getElem h2)
 apply ng;clear ng
 rw [w1] at w3; cases w3
 exact jh.eq (A:=A.in1) (by show A.units + 1 + d < _; (first | lia | omega)) w2 w4
theorem Drawn'.le {G':Gr} (D:Drawn' w G F bs nds) (k:bf G G'):Drawn' w G' F bs nds:=⟨D.fo.le k,D.it.mono fun zw zw ⟨b,e,n1,n2⟩=>⟨b,e,n1.le k,n2⟩,D.lo,D.hi⟩
theorem BC:∀(i:Nat) o,kN[i]? = some o->o.own=true->(∃v,o = .cell v)\/(∃vs,o = .lst vs)\/∃b,o = .rf b:=by
 have key:∀o∈kN,o.own=true->(∃v,o = .cell v)\/(∃vs,o = .lst vs)\/∃b,o = .rf b:=by
  intro o m ow
  simp only [kN,t7,List.map_cons,List.map_nil,List.cons_append,List.nil_append,List.mem_cons,List.not_mem_nil,or_false] at m
  rcases m with rfl | rfl | rfl | rfl | rfl | rfl | rfl | m
  ·exact .inl ⟨_,rfl⟩
  ·exact .inl ⟨_,rfl⟩
  ·exact .inl ⟨_,rfl⟩
  ·exact .inl ⟨_,rfl⟩
  ·exact .inl ⟨_,rfl⟩
  ·exact .inr (.inl ⟨_,rfl⟩)
  ·exact .inr (.inr ⟨_,rfl⟩)
  ·exfalso
   rcases m with rfl | rfl | rfl | rfl | rfl | rfl | rfl | rfl | rfl | rfl | rfl | rfl | rfl | rfl <;> exact bH ow
 exact fun i o e=>key o (List.mem_of_getElem? e)
theorem sj {ρ:Rho} {O:Opq} {s:St} (S:SR w ρ O G env h s as) (own:∀(i:Nat) o,s.ob[i]? = some o->o.own=true->(∃v,o = .cell v)\/(∃vs,o = .lst vs)\/∃b,o = .rf b) {b:Addr} {Us:List Value} (x:At h.get? b (.tup Us)):At (dA h env.locals s.ob as) b (.tup Us):=by
 apply bc;intro ng
 obtain ⟨o,e1,e2,m,e3⟩:=x
 apply ng;clear ng
 refine ⟨o,?_,e2,m,e3⟩
 have nl:∀{y:Obj},h.get? b=some y->y.cls≠.type "list":=fun e q=>by
  rw [e1] at e; cases e
  rw [q] at e2
  have e2:Value.type "list" = .type "tuple":=e2
  injection e2 with z; exact absurd z (by decide)
 unfold dA
 rw [if_neg]
 ·exact e1
 ·rintro (q | q)
  ·obtain ⟨fn,⟨oL,es,ep,l2,l3⟩,_⟩:=S.lc
   rw [<- q,e1] at l2; cases l2
   rw [e3] at l3; cases l3.1
  ·obtain ⟨j,oj,z1,z2,z3⟩:=dF.mp q
   have z:=(S.ob j oj b z1 z3).1
   rcases own j oj z1 z2 with ⟨v,rfl⟩ | ⟨vs,rfl⟩ | ⟨c,rfl⟩
   ·obtain ⟨V,-,ov,q1,q2⟩:=z
    rw [e1] at q1; cases q1
    have q2:o.data = .cell V:=q2
    rw [e3] at q2; cases q2
   ·obtain ⟨Vs,-,ov,q1,q2,_⟩:=z
    exact nl q1 q2
   ·obtain ⟨ov,q1,m2,q2⟩:=z
    exact nl q1 (by exact aa q2 rfl)
set_option tactic.hygienic true
theorem Eg {vs:List Int} {gap:Int} (HB0:HB w (OG w G)) (S:SR w (bm bs nds gap vs) (OG w G) G env h lW as) (D:Drawn' w G F bs nds) (hw:(bm bs nds gap vs).v 33=(bm bs nds gap vs).v 5 + (bm bs nds gap vs).v 6) (esc:env.scope=fq w.params) (R:Room A 200) {Q:Flow->Shared->Prop} {E:Value->Shared->Prop}
  (q:∀G' h' n' as',bf G G'->HB w (OG w G')->SR w (bm bs nds gap vs) (OG w G') G' env h' gP as'->Drawn' w G' F bs nds->wpAny (model pr w) A (execs ((dW w.params).drop 10) env) Q E ⟨h',gs,dr,n',os⟩) :
  wpAny (model pr w) A (execs ((dW w.params).drop 9) env) Q E ⟨h,gs,dr,n,os⟩:=by
 have S':=S.grow k7
 have gl:=S.growLe k7
 have gl0:bf G (mt h env.locals (k7.filterMap (bY lW.ob as))):=gl
 have e1:({ lW with ob:=hA k7 0 lW.ob }:St)=bV:=by
  show ({ lW with ob:=hA k7 0 zX }:St)=bV
  refine aa CU ?_; rfl
 rw [e1] at S'
 generalize mt h env.locals (k7.filterMap (bY lW.ob as))=G2 at S' gl gl0
 have D:=D.le gl
 have HB0:HB w (OG w G2):=let ⟨hb,W,kb⟩:=HB0; ⟨hb,W,fun a o e=>gl a o (kb a o e)⟩
 clear S gl e1
 have HH:∀{ρ:Rho},H2 w ρ (OG w G2) aA 2:=H2.no HB0
 have RR:Room A (12 + 2):=R.le (by (first | decide | lia | omega))
 apply bc;intro ng
 obtain ⟨n1,n2⟩:=Ki w.params
 obtain ⟨t1,t2,t3⟩:=K0 w.params
 have itm:All2 (fun V nd=>∃x,V = .ref x/\bQ G2 F x nd/\nd.ok) (bs.map ak) nds:=D.it.mono fun zw zw ⟨b,e,a,b1,_⟩=>⟨b,e,a,b1⟩
 have np:∀nd∈nds,nd.k≠.pck:=fun nd m=>by
  obtain ⟨i,ei⟩:=List.mem_iff_getElem?.mp m
  obtain ⟨V,_,b,_,_,_,_,z⟩:=D.it.rget ei
  exact z
 have hz:(bs.map ak).length<=1000:=by rw [List.length_map,D.len]; have:=D.hi; (first | decide | lia | omega)
 obtain ⟨vE,o1,o2⟩:∃vE,bE (bm bs nds gap vs) (bv vE) lu/\bE (bm bs nds gap vs) (bv vE) mr :=
  ⟨[(bm bs nds gap vs).v 33,(bm bs nds gap vs).v 20,(bm bs nds gap vs).v 21,0,(bm bs nds gap vs).v 34,(bm bs nds gap vs).v 35,(bm bs nds gap vs).v 36,(bm bs nds gap vs).v 37],⟨rfl,rfl⟩,⟨rfl,rfl,rfl,rfl,rfl,rfl,rfl⟩⟩
 apply ng;clear ng
 have hl1:(bm bs nds gap vs).l 1=bs:=rfl
 have a3o:bE (bm bs nds gap vs) (bm bs nds gap vs) wL:=⟨rfl,rfl,rfl,rfl,rfl,rfl,rfl,rfl,rfl,rfl,rfl,rfl,rfl,rfl,rfl,rfl,rfl,rfl⟩
 generalize bm bs nds gap vs=ρ at S' q hw o1 o2 hl1 a3o
 rw [wQ]
 refine wpAny_execs_cons (wpAny_If (isTrue_or (wpAny_isTrue_Compare1 (jv (AW w.params) t1 (oy HH esc n1 RR S' fun V h1 as1 n1' S1 p1 dv=>⟨dv,?_⟩)) t3)))
 refine cQ (post:=fun f s=>f = .rt (.loc 18)/\s=bV) (k:=k1) (HH.run 12) RR (by refine aa esc ?_; exact (congrArg (fun t=>Tr.ok _ _ t) (FA w.params k1).1).mpr ⟨rfl,rfl⟩) S1 fun vs1 Ws s2 h2 as2 n2' y2 S2 p2 dvs hws=>⟨S2.k,?_⟩
 clear hws
 apply bc;intro ng
 obtain ⟨rfl,rfl⟩:=tD (s0:=bV) y2
 apply ng;clear ng
 cases dvs; rename_i d1 dvs; cases dvs
 apply bc;intro ng
 obtain ⟨b,eb,rfl⟩:=d1
 obtain ⟨a,ea,xa,-⟩:=S2.get (i:=15) (o:=.fz (.rf 1)) rfl
 obtain ⟨b',eb',Bx⟩:=t5 S2 (i:=15) (n:=16) rfl rfl rfl Ag o1 o2 ea
 apply ng;clear ng
 rw [show as2[18]? = some b' from eb'] at eb; cases eb
 have xa:At G2 a (.pl ((ρ.l 1).map ak)):=xa
 rw [hl1] at xa
 refine lp S2.wd S2.kp D.fo (At.pl (xa.le (S2.kp _))) itm np hz Bx (R.le (by (first | decide | lia | omega))) fun V1 h3 n3 k3 tr1=>?_
 have S3:=S2.stay k3
 apply bc;intro ng
 obtain ⟨S3w,le3⟩:=S3.wide
 apply ng;clear ng
 have tr1:jh (dA h3 env.locals bV.ob as2) 8 (zo w.params vE nds) V1:=tr1.mono (Nat.le_refl _) fun b Us z=>sj S3 BC z
 generalize dA h3 env.locals bV.ob as2=GW at S3w le3 tr1
 refine jv (AW w.params) t2 (oy HH esc n2 RR S3w fun V h4 as4 n4 S4 p4 dv=>⟨dv,?_⟩)
 refine cQ (post:=fun f s=>f = .rt (.loc 10)/\s=bV) (k:=k1) (HH.run 12) RR (by refine aa esc ?_; exact (congrArg (fun t=>Tr.ok _ _ t) (FA w.params k1).2).mpr ⟨rfl,rfl⟩) S4 fun vs2 Ws s5 h5 as5 n5 y5 S5 p5 dvs hws=>⟨S5.k,?_⟩
 clear hws
 apply bc;intro ng
 obtain ⟨rfl,rfl⟩:=tD (s0:=bV) y5
 apply ng;clear ng
 cases dvs; rename_i d1 dvs; cases dvs
 apply bc;intro ng
 obtain ⟨b2,eb2,rfl⟩:=d1
 obtain ⟨a2,ea2,xa2,-⟩:=S5.get (i:=7) (o:=.fz (.rf 1)) rfl
 obtain ⟨b2',eb2',Bx2⟩:=t5 (G:=GW) (g:=G2) S5 (i:=7) (n:=8) rfl rfl rfl A9 o1 o2 ea2
 apply ng;clear ng
 rw [show as5[10]? = some b2' from eb2'] at eb2; cases eb2
 have xa2:At G2 a2 (.pl ((ρ.l 1).map ak)):=xa2
 rw [hl1] at xa2
 have kg5:bf G2 h5.get?:=fun b o e=>S5.kp _ _ (le3 _ _ e)
 refine lp S5.wd kg5 D.fo (At.pl (xa2.le (kg5 _))) itm np hz Bx2 (R.le (by (first | decide | lia | omega))) fun V2 h6 n6 k6 tr2=>?_
 have S6:=S5.stay k6
 have tr1:=tr1.mono (g':=h6.get?) (Nat.le_refl _) fun b Us z=>z.le (S6.kp _)
 refine EK (d:=7) (by have:=R.un; (first | decide | lia | omega)) tr1 tr2 (wpAny_truthy_bool ?_)
 refine rR HH esc (Io w.params) (R.le (by (first | decide | lia | omega))) S6 (fun z=>by exact bH z) ?_
 refine ⟨rfl,rfl,fun hE=>fun c h7 as7 n7 ec S7 p7=>?_,fun hE=>absurd hw hE⟩
 apply bc;intro ng
 cases ec
 apply ng;clear ng
 refine wpAny_execs_nil ?_
 have S8:=S7.re (ρ':=ρ) [0,1,2,3,4,5,6,8,11,13,14] FF a3o
 generalize ([0,1,2,3,4,5,6,8,11,13,14].map fun j=>as7.getD j 0)=as8 at S8
 have S9:=S8.grow k7
 have gl:=S8.growLe k7
 have e3:({ gP with ob:=hA k7 0 gP.ob }:St)=gP:=by
  show ({ gP with ob:=hA k7 0 vK }:St)=gP
  refine aa DV ?_; rfl
 rw [e3] at S9
 have l3:bf G2 (mt h7 env.locals (k7.filterMap (bY gP.ob as8))):=fun a o e=>gl a o (le3 a o e)
 exact q _ h7 n7 as8 (fun a o e=>l3 a o (gl0 a o e)) (let ⟨hb,W,kb⟩:=HB0; ⟨hb,W,fun a o e=>l3 a o (kb a o e)⟩) S9 (D.le l3)
set_option tactic.hygienic false
end
noncomputable def MK:Hk:=CL (Mg 1 2 11 12) (CL (MO 11 12 8 9) (uT [1,2,13]))
noncomputable def wv (j:Nat):AV:=.int (.fn (100 + j) (.c 13) (.c 1) (.c 0))
noncomputable def GB:List (Str×AV):=[(S' "gap",.int (.v 6)),(S' "own",.int (.v 5)),(S' "items",.loc 5),(S' "mode",.int (.v 3))]
noncomputable def By:List AO:=[.cell none,.cell none,.cell none,.cell (some (.loc 9)),.cell (some (.int (.v 8))),.rf 1,.fz (.tup [pv 16,pv 17]),.fz (.tup [pv 18,pv 19]),.fz (lw 6 7),.fz (.il 201 []),.rf 13,.tup [wv 16,wv 17],
 .ns [(S' "ratio",.loc 11),(S' "order",wv 15),(S' "sign",wv 14),(S' "shift",.int (.c 0)),(S' "items",.loc 10),(S' "depth",wv 1),(S' "height",wv 0),(S' "width",wv 13),(S' "kind",.int (.c 2))],.inst 389 12]
noncomputable def tF:St:=⟨[(S' "within",.loc 13),(S' "end",.int (.v 9)),(S' "told",.loc 8)]++GB,rb,By,[]⟩
noncomputable def De (P:Params):VC:=(cD P MK 30 (fq P) (jk P 10 4) gP).vc [0,1,2,3,4,6,7,8,9,10,19,20,21,22] .nx tF
noncomputable def J2 (e:IE):VC:=CG (.v 3) e (GD 2 (.v 3) e (.req (.le (.c 0) (.v 12)) (.req (.le (.v 12) (.c 990000)) (.req (.isl 13 1 (some (.v 8)) (some (.v 9))) (.ok [.ie (.v 8) (.v 8),.rf 1 1,.ie (.v 36) (.v 36),.ie (.v 37) (.v 37),.ie (.v 38) (.v 38),.ie (.v 39) (.v 39),.ie (.c 2) (.c 2),.ie (.v 33) (.v 33),.ie (.v 20) (.v 20),.ie (.v 21) (.v 21),.ie (.c 0) (.c 0),.ie (.v 34) (.v 34),.ie (.v 35) (.v 35),.il 201 [] 201 [],.rf 13 13,.ie (fK 116 13 (.c 1) (.c 0)) (fK 116 13 (.c 1) (.c 0)),.ie (fK 117 13 (.c 1) (.c 0)) (fK 117 13 (.c 1) (.c 0)),.ie (fK 115 13 (.c 1) (.c 0)) (fK 115 13 (.c 1) (.c 0)),.ie (fK 114 13 (.c 1) (.c 0)) (fK 114 13 (.c 1) (.c 0)),.ie (.c 0) (.c 0),.ie (fK 101 13 (.c 1) (.c 0)) (fK 101 13 (.c 1) (.c 0)),.ie (fK 100 13 (.c 1) (.c 0)) (fK 100 13 (.c 1) (.c 0)),.ie (fK 113 13 (.c 1) (.c 0)) (fK 113 13 (.c 1) (.c 0)),.ie (.c 2) (.c 2),.ie (.v 9) (.v 9),.ie (.v 6) (.v 6),.ie (.v 5) (.v 5),.ie (.v 3) (.v 3)])))))
noncomputable def zC:VC:=.req (.le (.c 0) (.v 2)) (.req (.le (.v 2) (.c 990000)) (.br (.eq (.v 3) (.c 1)) (J2 (.v 6)) (J2 eG)))
theorem BZ (P:Params):De P=zC:=by kernel_rfl
theorem pQ {R:Value->Nd->Prop} {l1 l2:List Int} (p:l1.Perm l2):∀{nds:List Nd},All2 R (l2.map ak) nds->∃nds2:List Nd,nds2.Perm nds/\All2 R (l1.map ak) nds2:=by
 induction p with
 | nil=>intro nds x; cases x; exact ⟨[],.nil,.nil⟩
 | cons a p ih =>
  intro nds x
  cases x with
  | cons y x=>obtain ⟨n2,p2,x2⟩:=ih x; exact ⟨_,p2.cons _,.cons y x2⟩
 | swap a b l =>
  intro nds x
  cases x with
  | cons y x=>cases x with | cons z x=>exact ⟨_,.swap _ _ _,.cons z (.cons y x)⟩
 | trans p q ih1 ih2 =>
  intro nds x
  apply bc;intro ng
  obtain ⟨n2,p2,x2⟩:=ih2 x
  obtain ⟨n3,p3,x3⟩:=ih1 x2
  apply ng;clear ng
  exact ⟨n3,p3.trans p2,x3⟩
structure RunD (nds:List Nd) (bs bs2:List Int) (nds2:List Nd) (b e:Nat):Prop where
 le:b<=e
 he:e<=nds.length
 hb:b < nds.length
 run:∀nd∈(nds.take e).drop b,nd.k.run=true
 p:nds2.Perm nds
 l2:bs2.length=bs.length
noncomputable def aG (nds:List Nd) (b e:Nat):List Nd:=(nds.take e).drop b
noncomputable def M3 (bs bs2:List Int) (nds nds2:List Nd) (gap:Int) (b e:Nat) (k:Nat):List Int :=
 if k=1 then bs else if k=2 then bs2 else if k=13 then (bs.take e).drop b else if k=201 then av (aI (ad nds) gap) nds else if k=202 then av (aI (ad nds) gap) nds2 else if k=213 then av (aI (ad (aG nds b e)) 0) (aG nds b e) else []
noncomputable def NB (nds nds2:List Nd) (b e:Nat) (k:Nat):List Nd:=if k=2 then nds2 else if k=13 then aG nds b e else nds
noncomputable def BB (nds:List Nd) (gap:Int) (b e:Nat) (k:Nat):Bx:=if k=13 then aI (ad (aG nds b e)) 0 else aI (ad nds) gap
noncomputable def cz (bs bs2:List Int) (nds nds2:List Nd) (gap:Int) (b e:Nat) (vs:List Int):Rho:=i5 vs (M3 bs bs2 nds nds2 gap b e) (NB nds nds2 b e) (BB nds gap b e)
section
variable {w:World} {A:Around} {gs:Array GenState} {dr:Drawn} {os:OsState} {G:Gr} {F:List Addr} {bs bs2:List Int} {nds nds2:List Nd} {env:Env} {h:Heap} {n:Nat} {as:List Addr} {b e:Nat} {gap:Int}
def Cq (G:Gr) (F:List Addr) (V:Value) (nd:Nd):Prop:=∃b,V = .ref b/\bQ G F b nd/\nd.ok/\nd.bd/\nd.k≠.pck
theorem nq {Us:List Value} {nds:List Nd} (x:All2 (Cq G F) Us nds):∀nd∈nds,nd.bd/\nd.k≠.pck:=by
 induction x with
 | nil=>intro nd m; cases m
 | cons p _ ih =>
  intro nd m
  cases m with
  | head=>obtain ⟨b,_,_,_,q⟩:=p; exact q
  | tail _ m=>exact ih nd m
theorem jV {nds:List Nd} (x:∀nd∈nds,nd.bd/\nd.k≠.pck) (hl:nds.length<=9):(ad nds).fit 9:=(jp x).up hl
theorem nt (D:Drawn' w G F bs nds):All2 (Cq G F) (((bs.take e).drop b).map ak) (aG nds b e):=by
 refine aa List.map_drop (aa List.map_take ?_)
 exact (D.it.take e).drop b
theorem Kg (D:Drawn' w G F bs nds) (hg : -9830400<=gap/\gap<=9830400) (D2:All2 (Cq G F) (bs2.map ak) nds2) (p:nds2.Perm nds) {vs:List Int}:LawE w G F (cz bs bs2 nds nds2 gap b e vs) [1,2,13] (NB nds nds2 b e) (BB nds gap b e):=by
 have lo:∀{Us:List Value} {m:List Nd},All2 (Cq G F) Us m->All2 (fun V nd=>∃x,V = .ref x/\bQ G F x nd/\nd.ok) Us m:=fun x=>x.mono fun zw zw ⟨b,e,a,b1,_⟩=>⟨b,e,a,b1⟩
 have D3:All2 (Cq G F) (((bs.take e).drop b).map ak) (aG nds b e):=nt D
 have l3:(aG nds b e).length<=9:=by unfold aG; refine aa List.length_drop (aa List.length_take ?_); have:=D.hi; (first | decide | lia | omega)
 have l2:nds2.length<=9:=by refine aa p.length_eq ?_; exact D.hi
 have f1:=D.fit
 have f2:=jV (nq D2) l2
 have f3:=jV (nq D3) l3
 have cs:∀{P:Nat->Prop},P 1->P 2->P 13->∀k∈[1,2,13],P k:=fun a b c k m=>by
  simp only [List.mem_cons,List.not_mem_nil,or_false] at m
  rcases m with rfl | rfl | rfl <;> assumption
 exact ik D.fo (cs (lo D.it) (lo D2) (lo D3)) (cs (f1.up (by (first | decide | lia | omega))) (f2.up (by (first | decide | lia | omega))) (f3.up (by (first | decide | lia | omega)))) (cs (by show nds.length<=_; have:=D.hi; (first | decide | lia | omega)) (by show nds2.length<=_; (first | decide | lia | omega)) (by show (aG nds b e).length<=_; (first | decide | lia | omega)))
  (cs (cI f1 (by (first | decide | lia | omega)) (by (first | decide | lia | omega))) (cI f1 (by (first | decide | lia | omega)) (by (first | decide | lia | omega))) (cI f3 (by (first | decide | lia | omega)) (by (first | decide | lia | omega)))) (cs (by rw [cr]; rfl) (by rw [cr]; rfl) (by rw [cr]; rfl))
end
structure Same (ρ:Rho) (k:Nat) (md own gap:Int):Prop where
 a1:md=1->∀j,j∈[0,1,13,14,15,16,17,18,19]->ρ.f (100 + j) k md gap=ρ.v (20 + j)
 a0:md=0->∀j,j∈[0,1,13,14,15,16,17,18,19]->ρ.f (100 + j) k md (own + gap)=ρ.v (20 + j)
theorem jU {x c md own gap b e u v:Int} {ls:Nat->List Int} {N:Nat->List Nd} {B:Nat->Bx} {nds:List Nd} {k:Nat} (ht:ad (N k)=ad nds) (hm:(N k).isEmpty=nds.isEmpty) (ho:own=(ad nds).n):Same (i5 (bU x c md own gap b e u v (PV nds gap)) ls N B) k md own gap:=by
 exact ⟨fun h j hj=>(tH ht hm (by exact aa h rfl) j hj).trans (fY j).symm,fun h j hj=>(tH ht hm (by unfold bJ; exact aa (if_pos h) (aa (if_neg (by decide)) (aa ho rfl))) j hj).trans (fY j).symm⟩
theorem mH {ρ ρ':Rho} {k:Nat} {md own gap:Int} {X:IE->VC} (v3:ρ.v 3=md) (v5:ρ.v 5=own) (v6:ρ.v 6=gap) (S:Same ρ k md own gap) (hm:md=0\/md=1) (hg : -9830400<=gap/\gap<=9830400) (ht : -72<=own/\own<=35100000)
  (x:∀e:IE,((IE.v 3).den ρ=0\/(IE.v 3).den ρ=1)->(-100000000<=e.den ρ/\e.den ρ<=100000000)->jH ρ ρ k (.v 3) e->(X e).den ρ ρ'):(VC.br (.eq (.v 3) (.c 1)) (X (.v 6)) (X eG)).den ρ ρ':=by
 subst v3 v5 v6
 exact ⟨fun h=>x _ hm (AH hg ht).1 fun j hj=>S.a1 h j hj,fun h=>x _ hm (AH hg ht).2 fun j hj=>S.a0 (hm.resolve_right h) j hj⟩
theorem JN {ρ:Rho} {c v md own gap:Int} (v2:ρ.v 2=c) (v3:ρ.v 3=md) (v5:ρ.v 5=own) (v6:ρ.v 6=gap) (v12:ρ.v 12=v) (S:Same ρ 2 md own gap) (hm:md=0\/md=1) (hg : -9830400<=gap/\gap<=9830400) (ht : -72<=own/\own<=35100000) (hc:0<=c/\c<=300) (hv:0<=v/\v<=400) (isl:(CE.isl 13 1 (some (.v 8)) (some (.v 9))).den ρ):zC.den ρ ρ:=by
 subst v2 v12
 exact ⟨hc.1,Int.le_trans hc.2 (show (300:Int)<=990000 by decide),mH (X:=J2) v3 v5 v6 S hm hg ht fun e h3 he s=>iK h3 he (nQ s ⟨hv.1,Int.le_trans hv.2 (show (400:Int)<=990000 by decide),isl,rfl,rfl,rfl,rfl,rfl,rfl,rfl,rfl,rfl,rfl,rfl,rfl,rfl,rfl,rfl,rfl,rfl,rfl,rfl,rfl,rfl,rfl,rfl,rfl,rfl,rfl,rfl,rfl⟩)⟩
theorem qV (P:Params):(dW P).drop 10=jk P 10 4++(dW P).drop 14:=by kernel_rfl
theorem EW:aN (List.range 11) gP gP=some wL:=by kernel_rfl
noncomputable def k6:List Nat:=[0,1,2,3,4,5]
noncomputable def GP:AO:=.ns [(S' "ratio",.loc 11),(S' "order",wv 15),(S' "sign",wv 14),(S' "shift",.int (.c 0)),(S' "items",.loc 10),(S' "depth",wv 1),(S' "height",wv 0),(S' "width",wv 13),(S' "kind",.int (.c 2))]
noncomputable def lV:List AO:=[.cell none,.cell none,.cell none,.cell (some (.loc 9)),.cell (some (.int (.v 8))),.rf 1,.fz (.tup [pv 16,pv 17]),.fz (.tup [pv 18,pv 19]),.fz (lw 6 7),.fz (.il 201 [])]
noncomputable def nS:List AO:=lV++[.fz (.rf 13),.fz (.tup [wv 16,wv 17]),.fz GP,.fz (.inst 389 12)]
theorem Fb:hA k6 0 By=nS:=by kernel_rfl
theorem EE:hA k6 0 lV=lV:=by kernel_rfl
noncomputable def qx (xw:Addr):List (Str×AV):=[(S' "within",.glb (.ref xw)),(S' "end",.int (.v 9)),(S' "told",.loc 8)]++GB
noncomputable def bI (xw:Addr):St:=⟨qx xw,rb,lV,[]⟩
noncomputable def uB (xw:Addr):List Ob1:=[.ie (.v 8) (.v 8),.rf 1 1,.ie (.v 36) (.v 36),.ie (.v 37) (.v 37),.ie (.v 38) (.v 38),.ie (.v 39) (.v 39),.ie (.c 2) (.c 2),.ie (.v 33) (.v 33),.ie (.v 20) (.v 20),.ie (.v 21) (.v 21),.ie (.c 0) (.c 0),.ie (.v 34) (.v 34),.ie (.v 35) (.v 35),.il 201 [] 201 [],.val (.ref xw) (.ref xw),.ie (.v 9) (.v 9),.ie (.v 6) (.v 6),.ie (.v 5) (.v 5),.ie (.v 3) (.v 3)]
noncomputable def Gy (i:Nat):Option Nat:=if i=12 then some 3 else none
noncomputable def Eo (i:Nat):Option Nat:=if i=11 then some 6 else if i=12 then some 7 else if i=10 then some 3 else none
noncomputable def EY:AO:=.ns [(S' "ratio",.any),(S' "order",.any),(S' "sign",.any),(S' "shift",.int (.v 3)),(S' "items",.any),(S' "depth",.int (.v 2)),(S' "height",.int (.v 1)),(S' "width",.int (.v 0)),(S' "kind",.int (.c 2))]
noncomputable def D6:AO:=.ns [(S' "ratio",.loc 6),(S' "order",.int (.v 3)),(S' "sign",.int (.v 2)),(S' "shift",.any),(S' "items",.loc 3),(S' "depth",.any),(S' "height",.any),(S' "width",.any),(S' "kind",.int (.c 2))]
noncomputable def wf (j:Nat):IE:=.fn (100 + j) (.c 13) (.c 1) (.c 0)
theorem zr:fF Gy GP EY=some [.ie (.c 0) (.v 3),.ie (wf 1) (.v 2),.ie (wf 0) (.v 1),.ie (wf 13) (.v 0),.ie (.c 2) (.c 2)]/\fF Gy (.inst 389 12) (.inst 389 3)=some []:=⟨by kernel_rfl,by kernel_rfl⟩
theorem s9:fF Eo (.tup [wv 16,wv 17]) (.tup [.int (.v 4),.int (.v 5)])=some [.ie (wf 16) (.v 4),.ie (wf 17) (.v 5)]/\fF Eo GP D6=some [.ie (wf 15) (.v 3),.ie (wf 14) (.v 2),.ie (.c 2) (.c 2)]/\fF Eo (.inst 389 12) (.inst 389 7)=some []:=⟨by kernel_rfl,by kernel_rfl,by kernel_rfl⟩
section
variable {w:World} {A:Around} {gs:Array GenState} {dr:Drawn} {os:OsState} {G:Gr} {F:List Addr} {bs bs2:List Int} {nds nds2:List Nd} {env:Env} {h:Heap} {n:Nat} {as:List Addr} {b e:Nat} {gap:Int}
theorem SR.lss {ρ:Rho} {O:Opq} {s:St} (S:SR w ρ O G env h s as) {ls':List (Str×AV)} (k:∀x v,ls'.lookup x=some v->∃v0,s.ls.lookup x=some v0/\∀V,Dn ρ as v0 V->Dn ρ as v V):SR w ρ O G env h { s with ls:=ls' } as:=by
 apply bc;intro ng
 obtain ⟨fn,N,l1⟩:=S.lc
 apply ng;clear ng
 exact ⟨S.bs,S.kp,S.og,S.fL,S.eg,S.eb,S.ek,⟨fn,N,fun x v e=>let ⟨v0,e0,z⟩:=k x v e; let ⟨V,z1,z2⟩:=l1 x v0 e0; ⟨V,z1,z V z2⟩⟩,S.cc,S.sz,S.ob,S.nd,S.pc⟩
theorem EU (xw:Addr):aN (List.range 10) { (⟨[(S' "within",.loc 13),(S' "end",.int (.v 9)),(S' "told",.loc 8)]++GB,rb,nS,[]⟩:St) with ls:=qx xw } (bI xw)=some (uB xw):=by kernel_rfl
end
theorem Ew {bs bs2:List Int} {nds nds2:List Nd} {gap x c md u v:Int} {b e:Nat}:bE (bm bs nds gap (bU x c md (ad nds).n gap 0 0 0 0 (PV nds gap))) (cz bs bs2 nds nds2 gap b e (bU x c md (ad nds).n gap b e u v (PV nds gap))) wL:=by
 have pa:∀j,(bm bs nds gap (bU x c md (ad nds).n gap 0 0 0 0 (PV nds gap))).v (20 + j)=(PV nds gap).getD j 0:=fun j=>fY j
 have pb:∀j,(cz bs bs2 nds nds2 gap b e (bU x c md (ad nds).n gap b e u v (PV nds gap))).v (20 + j)=(PV nds gap).getD j 0:=fun j=>fY j
 have pp:∀j,(bm bs nds gap (bU x c md (ad nds).n gap 0 0 0 0 (PV nds gap))).v (20 + j)=(cz bs bs2 nds nds2 gap b e (bU x c md (ad nds).n gap b e u v (PV nds gap))).v (20 + j):=fun j=>(pa j).trans (pb j).symm
 have va:∀i y,(bU x c md (ad nds).n gap 0 0 0 0 (PV nds gap)).getD i 0=y->(bU x c md (ad nds).n gap b e u v (PV nds gap)).getD i 0=y->(bm bs nds gap (bU x c md (ad nds).n gap 0 0 0 0 (PV nds gap))).v i=(cz bs bs2 nds nds2 gap b e (bU x c md (ad nds).n gap b e u v (PV nds gap))).v i:=fun i y e1 e2=>e1.trans e2.symm
 have v1:=va 1 x rfl rfl
 have v2:=va 2 c rfl rfl
 have v3:=va 3 md rfl rfl
 have v5:=va 5 (ad nds).n rfl rfl
 have v6:=va 6 gap rfl rfl
 have l1:(bm bs nds gap (bU x c md (ad nds).n gap 0 0 0 0 (PV nds gap))).l 1=(cz bs bs2 nds nds2 gap b e (bU x c md (ad nds).n gap b e u v (PV nds gap))).l 1:=rfl
 have l2:(bm bs nds gap (bU x c md (ad nds).n gap 0 0 0 0 (PV nds gap))).l 201=(cz bs bs2 nds nds2 gap b e (bU x c md (ad nds).n gap b e u v (PV nds gap))).l 201:=rfl
 exact ⟨v1,v2,l1,pp 16,pp 17,pp 18,pp 19,rfl,pp 13,pp 0,pp 1,rfl,pp 14,pp 15,congrArg (·++[]) l2,v6,v5,v3⟩
section
variable {w:World} {A:Around} {gs:Array GenState} {dr:Drawn} {os:OsState} {G:Gr} {F:List Addr} {bs bs2:List Int} {nds nds2:List Nd} {env:Env} {h:Heap} {n:Nat} {as:List Addr} {b e:Nat} {gap:Int}
structure Within (w:World) (G:Gr) (F:List Addr) (bs:List Int) (run:List Nd) (b e:Nat) (xw:Addr):Prop where
 nd:bQ G F xw (dM run)
 bx:∃aw,At G aw (.pl (((bs.take e).drop b).map ak))/\Ao G aw xw (aI (ad run) 0)
theorem qZ {vs:List Int} {s:St} (S:SR w (cz bs bs2 nds nds2 gap b e vs) (OG w G) G env h s as) (hF:F.length=3) (ob:s.ob=nS):∃xw,as[13]? = some xw/\Within w G F bs (aG nds b e) b e xw:=by
 apply bc;intro ng
 obtain ⟨aw,e10,x10,-⟩:=S.get (i:=10) (o:=.fz (.rf 13)) (by refine aa ob ?_; rfl)
 obtain ⟨ar,e11,x11,-⟩:=S.get (i:=11) (o:=.fz (.tup [wv 16,wv 17])) (by refine aa ob ?_; rfl)
 obtain ⟨an,e12,x12,-⟩:=S.get (i:=12) (o:=.fz GP) (by refine aa ob ?_; rfl)
 obtain ⟨xw,e13,x13,-⟩:=S.get (i:=13) (o:=.fz (.inst 389 12)) (by refine aa ob ?_; rfl)
 apply ng;clear ng
 have z0:bJ (ad (aG nds b e)) 1 0 - (ad (aG nds b e)).n=0:=by unfold bJ; refine aa (if_neg (by (first | decide | lia | omega))) ?_; (first | decide | lia | omega)
 have w0:∀ρ:Rho,ρ=cz bs bs2 nds nds2 gap b e vs->ρ.f 113 13 1 0=(ad (aG nds b e)).n:=fun ρ q=>by subst q; show (ad (aG nds b e)).n + 0=_; (first | decide | lia | omega)
 refine ⟨xw,e13,⟨⟨[an,xw],rfl,?_⟩,aw,x10,ar,an,fun as' ρ' a3 a6 a7 v2 v3 v4 v5=>?_⟩⟩
 ·have hm:Mp Gy as (F++[an,xw]):=by
   intro i j ej x ex
   unfold Gy at ej
   split at ej
   ·rename_i z; subst z; cases ej; rw [e12] at ex; cases ex
    refine aa (List.getElem?_append_right (by (first | decide | lia | omega))) (aa hF ?_); rfl
   ·exact ap ej
  refine .cons (bL (ρ:=cz bs bs2 nds nds2 gap b e vs) hm zr.1 ⟨rfl,rfl,rfl,w0 _ rfl,rfl⟩ x12) (.cons (bL (ρ:=cz bs bs2 nds nds2 gap b e vs) (o:=.inst 389 12) hm zr.2 trivial x13) .nil)
 ·have hm:Mp Eo as as':=by
   intro i j ej x ex
   unfold Eo at ej
   split at ej
   ·rename_i z; subst z; cases ej; rw [e11] at ex; cases ex; exact a6
   ·split at ej
    ·rename_i z; subst z; cases ej; rw [e12] at ex; cases ex; exact a7
    ·split at ej
     ·rename_i z; subst z; cases ej; rw [e10] at ex; cases ex; exact a3
     ·exact ap ej
  have g14:(cz bs bs2 nds nds2 gap b e vs).f 114 13 1 0=(aI (ad (aG nds b e)) 0).s:=by show bh (ad (aG nds b e)) (bJ (ad (aG nds b e)) 1 0 - (ad (aG nds b e)).n) 12=bh (ad (aG nds b e)) 0 12; exact aa z0 rfl
  have g15:(cz bs bs2 nds nds2 gap b e vs).f 115 13 1 0=(aI (ad (aG nds b e)) 0).o:=by show bh (ad (aG nds b e)) (bJ (ad (aG nds b e)) 1 0 - (ad (aG nds b e)).n) 13=bh (ad (aG nds b e)) 0 13; exact aa z0 rfl
  have g16:(cz bs bs2 nds nds2 gap b e vs).f 116 13 1 0=(aI (ad (aG nds b e)) 0).p:=by show bh (ad (aG nds b e)) (bJ (ad (aG nds b e)) 1 0 - (ad (aG nds b e)).n) 14=bh (ad (aG nds b e)) 0 14; exact aa z0 rfl
  have g17:(cz bs bs2 nds nds2 gap b e vs).f 117 13 1 0=(aI (ad (aG nds b e)) 0).q:=by show bh (ad (aG nds b e)) (bJ (ad (aG nds b e)) 1 0 - (ad (aG nds b e)).n) 15=bh (ad (aG nds b e)) 0 15; exact aa z0 rfl
  exact ⟨bL (ρ:=cz bs bs2 nds nds2 gap b e vs) hm s9.1 ⟨g16.trans v4.symm,g17.trans v5.symm⟩ x11,bL (ρ:=cz bs bs2 nds nds2 gap b e vs) hm s9.2.1 ⟨g15.trans v3.symm,g14.trans v2.symm,rfl⟩ x12,bL (ρ:=cz bs bs2 nds nds2 gap b e vs) (o:=.inst 389 12) hm s9.2.2 trivial x13⟩
theorem aU.len (x:aU w G F):F.length=3:=by obtain ⟨_,_,_,rfl,_⟩:=x; rfl
theorem Ea {ns:List Int} {x c:Int} (HB0:HB w (OG w G)) (S:SR w (bm bs nds gap (bU x c (kI ns) (ad nds).n gap 0 0 0 0 (PV nds gap))) (OG w G) G env h gP as) (D:Drawn' w G F bs nds) (hg : -9830400<=gap/\gap<=9830400) (hc:0<=c/\c<=300) (esc:env.scope=fq w.params) (R:Room A 200) {Q:Flow->Shared->Prop} {E:Value->Shared->Prop}
  (q:∀G' h' n' as' bs2 nds2 b e u v xw,bf G G'->HB w (OG w G')->SR w (cz bs bs2 nds nds2 gap b e (bU x c (kI ns) (ad nds).n gap b e u v (PV nds gap))) (OG w G') G' env h' (bI xw) as'->Drawn' w G' F bs nds->RunD nds bs bs2 nds2 b e->Within w G' F bs (aG nds b e) b e xw->wpAny (model pr w) A (execs ((dW w.params).drop 14) env) Q E ⟨h',gs,dr,n',os⟩) :
  wpAny (model pr w) A (execs ((dW w.params).drop 10) env) Q E ⟨h,gs,dr,n,os⟩:=by
 have hl:=D.len
 have hlo:=D.lo
 have hhi:=D.hi
 apply bc;intro ng
 obtain ⟨pm,cm⟩:=mo (x:=x) (c:=c) (L:=bs) (F:=[]) (n:=bs.length) rfl
 rw [List.nil_append] at pm
 obtain ⟨nds2,pn,D2⟩:=pQ (R:=Cq G F) pm D.it
 obtain ⟨bs2,hbs2⟩:∃z,z=(fS bs.length x c bs []).1:=⟨_,rfl⟩
 obtain ⟨u,hu⟩:∃z,z=(fS bs.length x c bs []).2.1:=⟨_,rfl⟩
 obtain ⟨v,hv⟩:∃z,z=(fS bs.length x c bs []).2.2:=⟨_,rfl⟩
 rw [<- hbs2] at pm D2
 have dk:=bC (a:=u) (c:=v) (m:=bs.length) (by (first | lia | omega))
 obtain ⟨b,hb⟩:∃b:Nat,(b:Int)=bu u v bs.length:=⟨(bu u v bs.length).toNat,by (first | lia | omega)⟩
 obtain ⟨e,he⟩:∃e:Nat,e=fN (nds.map fun nd=>nd.k.run) 4 b:=⟨_,rfl⟩
 apply ng;clear ng
 have hb':b=(bu u v bs.length).toNat:=by (first | lia | omega)
 have ro:=oA (kd:=nds.map fun nd=>nd.k.run) (n:=4) (e:=b) (by rw [List.length_map]; (first | lia | omega))
 rw [<- he,List.length_map] at ro
 have RD:RunD nds bs bs2 nds2 b e:=by
  refine ⟨ro.1,ro.2.1,by (first | lia | omega),fun nd m=>?_,pn,pm.length_eq⟩
  apply bc;intro ng
  obtain ⟨i,ei⟩:=List.mem_iff_getElem?.mp m
  apply ng;clear ng
  rw [List.getElem?_drop,List.getElem?_take] at ei
  split at ei
  ·rename_i hlt
   have z:=ro.2.2.2 (b + i) (by (first | lia | omega)) hlt
   rw [List.getD,List.getElem?_map,ei] at z
   exact z
  ·exact ap ei
 have S0:=S.re (ρ':=cz bs bs2 nds nds2 gap b e (bU x c (kI ns) (ad nds).n gap b e u v (PV nds gap))) (s':=gP) (List.range 11) EW Ew
 generalize ((List.range 11).map fun j=>as.getD j 0)=as0 at S0
 have HW:H2 w (cz bs bs2 nds nds2 gap b e (bU x c (kI ns) (ad nds).n gap b e u v (PV nds gap))) (OG w G) MK 81:=by
  refine ⟨HB0,by (first | lia | omega),ay.or (ay.le (d:=60) (AT (by show bs.length<=100; (first | lia | omega)) hbs2 hu hv) (by (first | lia | omega))) (ay.or (ay.le (d:=60) (Ax (F:=F) (nds:=nds) ⟨by show 0 < bs.length; (first | lia | omega),by show bs.length<=100; (first | lia | omega)⟩ D.fo.len (D.it.mono fun zw zw ⟨b,e,a,b1,_⟩=>⟨b,e,a,b1⟩) hb ?_) (by (first | lia | omega))) (nv (Kg D hg D2 pn)))⟩
  show (e:Int)=(fN (nds.map fun nd=>nd.k.run) 4 (bu u v bs.length).toNat:Nat)
  exact aa (Eq.symm hb') (aa (Eq.symm he) rfl)
 have sm:Same (cz bs bs2 nds nds2 gap b e (bU x c (kI ns) (ad nds).n gap b e u v (PV nds gap))) 2 (kI ns) (ad nds).n gap:=jU (nds:=nds) (nF pn _) (by
  show nds2.isEmpty=nds.isEmpty
  have:=pn.length_eq
  cases nds2 <;> cases nds <;> first | rfl | cases this) rfl
 rw [qV]
 refine aH (iM (ρ':=cz bs bs2 nds nds2 gap b e (bU x c (kI ns) (ad nds).n gap b e u v (PV nds gap))) HW esc (BZ w.params) (R.le (by (first | lia | omega))) S0 (JN (c:=c) (v:=v) (own:=(ad nds).n) (gap:=gap) (md:=kI ns) rfl rfl rfl rfl rfl sm (j9 ns) hg (by have:=D.fit.n; (first | lia | omega)) hc (by (first | lia | omega)) ?_) fun h1 as1 n1 S1 p1=>?_)
 ·exact ⟨by show (0:Int)<=b; (first | lia | omega),by show (0:Int)<=e; (first | lia | omega),rfl,by show bs.length<=1000; (first | lia | omega)⟩
 generalize ([0,1,2,3,4,6,7,8,9,10,19,20,21,22].map fun j=>as1.getD j 0)=as2 at S1
 have S2:=S1.grow k6
 have gl:=S1.growLe k6
 have e1:({ tF with ob:=hA k6 0 tF.ob }:St)=⟨[(S' "within",.loc 13),(S' "end",.int (.v 9)),(S' "told",.loc 8)]++GB,rb,nS,[]⟩:=by
  show ({ tF with ob:=hA k6 0 By }:St)=_
  refine aa Fb ?_; rfl
 rw [e1] at S2
 generalize mt h1 env.locals (k6.filterMap (bY tF.ob as2))=G2 at S2 gl
 have D:=D.le gl
 have HB0:HB w (OG w G2):=let ⟨hb,W,kb⟩:=HB0; ⟨hb,W,fun a o e=>gl a o (kb a o e)⟩
 apply bc;intro ng
 obtain ⟨xw,e13,Wi⟩:=qZ (F:=F) S2 D.fo.len rfl
 apply ng;clear ng
 have S3:=S2.lss (ls':=qx xw) fun z v0 ez=>by
  by_cases hz:z=S' "within"
  ·subst hz
   cases ez
   exact ⟨_,rfl,fun V d=>by obtain ⟨a,ea,rfl⟩:=d; rw [e13] at ea; cases ea; rfl⟩
  ·refine ⟨v0,?_,fun V d=>d⟩
   unfold qx at ez
   rw [List.cons_append,List.lookup_cons] at ez ⊢
   rw [show (z == S' "within")=false from beq_eq_false_iff_ne.mpr hz] at ez ⊢
   exact ez
 have S4:=S3.re (ρ':=cz bs bs2 nds nds2 gap b e (bU x c (kI ns) (ad nds).n gap b e u v (PV nds gap))) (s':=bI xw) (List.range 10) (EU xw) ⟨rfl,rfl,rfl,rfl,rfl,rfl,rfl,rfl,rfl,rfl,rfl,rfl,rfl,rfl,rfl,rfl,rfl,rfl,rfl⟩
 exact q G2 h1 n1 _ bs2 nds2 b e u v xw gl HB0 S4 D RD Wi
end
noncomputable def Nt:List Nat:=[0,1,2,3,4,5,6,7,8,9]
noncomputable def EB (P:Params) (xw:Addr):VC:=(cD P (uT [2057]) 30 (fq P) (jk P 14 2) (bI xw)).vc Nt .nx (bI xw)
noncomputable def G9 (P:Params) (xw:Addr):VC:=(cD P (CL LL (uT [5])) 30 (fq P) (jk P 17 4) (bI xw)).vc [] (.rt (.bool true)) ⟨[],[],[],[]⟩
noncomputable def Ho (xw:Addr) (e:IE):VC:=CG (.v 3) e (GD 2057 (.v 3) e (GS 2057 (.v 3) e (.req (.isl 2012 201 none (some (.add (.v 8) (.c 1)))) (.req (.isl 2011 201 (some (.v 9)) none) (.req (.icat 6035 2012 2011) (.req (.ieq 2257 6035) (.ok [.ie (.v 8) (.v 8),.rf 1 1,.ie (.v 36) (.v 36),.ie (.v 37) (.v 37),.ie (.v 38) (.v 38),.ie (.v 39) (.v 39),.ie (.c 2) (.c 2),.ie (.v 33) (.v 33),.ie (.v 20) (.v 20),.ie (.v 21) (.v 21),.ie (.c 0) (.c 0),.ie (.v 34) (.v 34),.ie (.v 35) (.v 35),.il 201 [] 201 [],.val (.ref xw) (.ref xw),.ie (.v 9) (.v 9),.ie (.v 6) (.v 6),.ie (.v 5) (.v 5),.ie (.v 3) (.v 3)])))))))
noncomputable def zi (xw:Addr):VC:=.req (.isl 12 1 none (some (.v 8))) (.req (.iref 1023 12 xw) (.req (.isl 11 1 (some (.v 9)) none) (.req (.icat 2057 1023 11) (.br (.eq (.v 3) (.c 1)) (Ho xw (.v 6)) (Ho xw eG)))))
theorem Bw (P:Params) (xw:Addr):EB P xw=zi xw:=by kernel_rfl
noncomputable def eC (e:IE):VC:=CG (.v 3) e (GD 5 (.v 3) e (GS 5 (.v 3) e (.req (.last 205 (.v 705)) (.req (.last 201 (.v 701)) (.br (.eq (.v 705) (.v 701)) (.ok []) .fail)))))
noncomputable def E6 (xw:Addr):VC:=.br (.emp 5) (.ok []) (.br (.eq (.v 3) (.c 1)) (eC (.v 6)) (eC eG))
theorem D1 (P:Params) (xw:Addr):G9 P xw=E6 xw:=by kernel_rfl
noncomputable def uP (nds:List Nd) (b e:Nat):List Nd:=nds.take b++[dM (aG nds b e)]++nds.drop e
noncomputable def Nw (bs:List Int) (nds:List Nd) (gap:Int) (b e:Nat) (xw:Addr) (k:Nat):List Int :=
 if k=1 then bs else if k=12 then bs.take b else if k=1023 then bs.take b++[(xw:Int)] else if k=11 then bs.drop e else if k=2057 then bs.take b++[(xw:Int)]++bs.drop e
 else if k=201 then av (aI (ad nds) gap) nds else if k=2012 then (av (aI (ad nds) gap) nds).take (b + 1) else if k=2011 then (av (aI (ad nds) gap) nds).drop e
 else if k=6035 then (av (aI (ad nds) gap) nds).take (b + 1)++(av (aI (ad nds) gap) nds).drop e else if k=2257 then av (aI (ad nds) gap) (uP nds b e)
 else if k=2013 then ((av (aI (ad nds) gap) nds).take (e + 1)).drop b else []
noncomputable def cO (bs:List Int) (nds:List Nd) (gap:Int) (b e:Nat) (xw:Addr) (vs:List Int):Rho:=i5 vs (Nw bs nds gap b e xw) (fun zw=>uP nds b e) fun zw=>aI (ad nds) gap
theorem tA {r1 r2:Rho} {xw:Addr} (hv:∀i,i < 40->r1.v i=r2.v i) (h1:r1.l 1=r2.l 1) (h2:r1.l 201=r2.l 201):bE r1 r2 (uB xw) :=
 ⟨hv 8 (by decide),h1,hv 36 (by decide),hv 37 (by decide),hv 38 (by decide),hv 39 (by decide),rfl,hv 33 (by decide),hv 20 (by decide),hv 21 (by decide),rfl,hv 34 (by decide),hv 35 (by decide),congrArg (·++[]) h2,rfl,hv 9 (by decide),hv 6 (by decide),hv 5 (by decide),hv 3 (by decide)⟩
theorem zK {r1 r2:Rho} {xw:Addr} (hv:r1.v=r2.v) (h1:r1.l 1=r2.l 1) (h2:r1.l 201=r2.l 201):bE r1 r2 (uB xw):=tA (fun i zw=>congrFun hv i) h1 h2
theorem zR (xw:Addr):aN (List.range 10) (bI xw) (bI xw)=some (uB xw):=by kernel_rfl
theorem kl {nds:List Nd} {b e:Nat} (h:∀nd∈(nds.take e).drop b,nd.k.run=true):∀a∈aG nds b e,a.noG:=fun a m=>by
 have:=h a m
 unfold Nd.noG
 intro q
 rw [q] at this
 exact bH this
theorem gH {α:Type} {l:List α} {b e:Nat} (h:b<=e):l.take b++(l.take e).drop b++l.drop e=l:=by
 have:l.take b=(l.take e).take b:=by exact aa List.take_take (aa (Nat.min_eq_left h) rfl)
 rw [this,List.take_append_drop,List.take_append_drop]
section
variable {w:World} {G:Gr} {F:List Addr} {bs bs2:List Int} {nds nds2:List Nd} {b e:Nat} {gap:Int} {xw:Addr}
theorem jx (RD:RunD nds bs bs2 nds2 b e):ad (uP nds b e)=ad nds:=by
 unfold uP
 refine aa (pY (kl RD.run)) ?_
 show ad (nds.take b++(nds.take e).drop b++nds.drop e)=_
 exact aa (gH RD.le) rfl
theorem JC (D:Drawn' w G F bs nds) (hg : -9830400<=gap/\gap<=9830400) (RD:RunD nds bs bs2 nds2 b e) (Wi:Within w G F bs (aG nds b e) b e xw) {vs:List Int}:LawE w G F (cO bs nds gap b e xw vs) [2057] (fun zw=>uP nds b e) fun zw=>aI (ad nds) gap:=by
 have one:∀k∈[2057],k=2057:=fun k m=>List.mem_singleton.mp m
 have it:All2 (fun V nd=>∃x,V = .ref x/\bQ G F x nd/\nd.ok) (bs.map ak) nds:=D.it.mono fun zw zw ⟨b,e,a,b1,_⟩=>⟨b,e,a,b1⟩
 have itg:All2 (fun V nd=>∃x,V = .ref x/\bQ G F x nd/\nd.ok) ((bs.take b++[(xw:Int)]++bs.drop e).map ak) (uP nds b e):=by
  refine aa List.map_append (aa List.map_append (aa List.map_take (aa List.map_drop ?_)))
  exact ((it.take b).app (.cons ⟨xw,rfl,Wi.nd,trivial⟩ .nil)).app (it.drop e)
 refine ik D.fo (fun k m=>?_) (fun k m=>?_) (fun k m=>?_) (fun k m=>cI D.fit (by (first | decide | omega)) (by (first | decide | omega))) fun k m=>?_
 ·refine aa (one k m) ?_; exact itg
 ·refine aa (jx RD) ?_; exact D.fit.up (by (first | decide | omega))
 ·have:=D.hi
  unfold uP
  simp only [List.length_append,List.length_take,List.length_drop,List.length_singleton]
  (first | decide | omega)
 ·rw [one k m,cr]; rfl
theorem qW (D:Drawn' w G F bs nds) (hg : -9830400<=gap/\gap<=9830400) (RD:RunD nds bs bs2 nds2 b e):av (aI (ad nds) gap) (uP nds b e)=(av (aI (ad nds) gap) nds).take (b + 1)++(av (aI (ad nds) gap) nds).drop e:=by
 have z:=mc (B:=aI (ad nds) gap) (cI D.fit (by (first | decide | lia | omega)) (by (first | decide | lia | omega))) (pre:=nds.take b) (post:=nds.drop e) (kl RD.run)
 have sp:nds.take b++aG nds b e++nds.drop e=nds:=gH RD.le
 rw [sp] at z
 have lb:(nds.take b).length=b:=by rw [List.length_take]; have:=RD.hb; (first | decide | lia | omega)
 have lr:(aG nds b e).length=e - b:=by unfold aG; rw [List.length_drop,List.length_take]; have:=RD.he; (first | decide | lia | omega)
 rw [lb,lr,show b + (e - b)=e by have:=RD.le; (first | decide | lia | omega)] at z
 exact z
theorem pU (D:Drawn' w G F bs nds) (hg : -9830400<=gap/\gap<=9830400) (RD:RunD nds bs bs2 nds2 b e):(av (aI (ad (aG nds b e)) 0) (aG nds b e)).map (((av (aI (ad nds) gap) nds).getD b 0) + ·)=((av (aI (ad nds) gap) nds).take (e + 1)).drop b:=by
 have z:=q7 (B:=aI (ad nds) gap) (cI D.fit (by (first | lia | omega)) (by (first | lia | omega))) (pre:=nds.take b) (post:=nds.drop e) (kl RD.run)
 have sp:nds.take b++aG nds b e++nds.drop e=nds:=gH RD.le
 rw [sp] at z
 have lb:(nds.take b).length=b:=by refine aa List.length_take ?_; have:=RD.hb; (first | lia | omega)
 have lr:(aG nds b e).length=e - b:=by unfold aG; refine aa List.length_drop (aa List.length_take ?_); have:=RD.he; (first | lia | omega)
 rw [lb,lr] at z
 exact aa tJ (aa z (aa List.drop_take (aa (show e - b + 1=e + 1 - b by have:=RD.le; (first | lia | omega)) rfl)))
end
noncomputable def lX (j i:Nat):Option Nat:=if i < 3 then some i else if i=3 + j then some 3 else none
noncomputable def vj (q:Nat):AO:=.ns [(S' "code",.int (.v q)),(S' "font",.loc 1)]
noncomputable def FE:AO:=.ns [(S' "sort",.int (.c 0)),(S' "width",.int (.v 1))]
noncomputable def FK:AO:=.ns [(S' "sort",.int (.v 1)),(S' "width",.int (.v 0))]
theorem jB:fF (lX 2) (vj 0) (vj 0)=some [.ie (.v 0) (.v 0)]/\fF (lX 2) (.inst 368 5) (.inst 368 3)=some []/\fF (lX 4) FE FK=some [.ie (.c 0) (.v 1),.ie (.v 1) (.v 0)]/\fF (lX 4) (.inst 431 7) (.inst 431 3)=some []:=⟨by kernel_rfl,by kernel_rfl,by kernel_rfl,by kernel_rfl⟩
section
variable {g:Gr} {F:List Addr}
theorem kC {ρ ρ':Rho} {as2:List Addr} {j:Nat} {a0 a1:Addr} {o0 o1 u0 u1:AO} {l0 l1:List Ob1} (hF:F.length=3) (e0:as2[j]? = some a0) (r0:fF (lX j) o0 u0=some l0) (r1:fF (lX j) o1 u1=some l1) (b0:bE ρ ρ' l0) (b1:bE ρ ρ' l1) (x0:aO ρ (F++as2) g a0 o0) (x1:aO ρ (F++as2) g a1 o1) :
  All2 (fun x u=>aO ρ' (F++[a0,a1]) g x u) [a0,a1] [u0,u1]:=by
 have hm:Mp (lX j) (F++as2) (F++[a0,a1]):=by
  intro i k ek x ex
  unfold lX at ek
  split at ek
  ·rename_i hi
   cases ek
   rw [List.getElem?_append_left (by (first | lia | omega))] at ex ⊢
   exact ex
  ·split at ek
   ·rename_i z; subst z; cases ek
    rw [List.getElem?_append_right (by (first | lia | omega)),hF,Nat.add_sub_cancel_left,e0] at ex
    cases ex
    rw [List.getElem?_append_right (by (first | lia | omega)),hF]; rfl
   ·exact ap ek
 exact .cons (bL hm r0 b0 x0) (.cons (bL hm r1 b1 x1) .nil)
theorem xg {V:Value} {p:Nd×List Int} (hF:F.length=3) (x:Cu g F V p) (ok:p.1.ok):All2 (fun V nd=>∃x,V = .ref x/\bQ g F x nd/\nd.ok) (p.2.map ak) p.1.flat:=by
 apply bc;intro ng
 obtain ⟨x,as2,rfl,e1,e2,e3⟩:=x
 obtain ⟨⟨k,a⟩,q⟩:=p
 apply ng;clear ng
 dsimp only at e1 e2 e3 ok ⊢
 subst e3
 have self:All2 (fun V nd=>∃x,V = .ref x/\bQ g F x nd/\nd.ok) ([((as2.getD k.last 0:Nat):Int)].map ak) [⟨k,a⟩]:=by
  refine .cons ⟨x,?_,⟨as2,e1,e2⟩,ok⟩ .nil
  show Value.ref ((as2.getD k.last 0:Nat):Int).toNat=_
  rw [List.getD,e1]; rfl
 have two:∀{j:Nat} {o0 o1:AO},(k.T 3 0)[j]? = some o0->(k.T 3 0)[j + 1]? = some o1->∃a0 a1,as2[j]? = some a0/\as2[j + 1]? = some a1/\aO (dm a) (F++as2) g a0 o0/\aO (dm a) (F++as2) g a1 o1:=fun {j o0 o1} t0 t1=>by
  apply bc;intro ng
  obtain ⟨a0,f0,y0⟩:=e2.rget t0
  obtain ⟨a1,f1,y1⟩:=e2.rget t1
  apply ng;clear ng
  exact ⟨a0,a1,f0,f1,y0,y1⟩
 induction k with
 | dsc0=>exact .nil
 | dsc1 =>
  apply bc;intro ng
  obtain ⟨a0,a1,f0,f1,y0,y1⟩:=two (j:=2) (o0:=vj 0) (o1:=.inst 368 5) rfl rfl
  apply ng;clear ng
  refine .cons ⟨a1,?_,⟨[a0,a1],rfl,kC (ρ:=dm a) hF f0 jB.1 jB.2.1 rfl trivial y0 y1⟩,ok⟩ .nil
  show Value.ref ((as2.getD 3 0:Nat):Int).toNat=_
  rw [List.getD,f1]; rfl
 | dsc2 =>
  apply bc;intro ng
  obtain ⟨a0,a1,f0,f1,y0,y1⟩:=two (j:=2) (o0:=vj 0) (o1:=.inst 368 5) rfl rfl
  obtain ⟨c0,c1,h0,h1,z0,z1⟩:=two (j:=4) (o0:=FE) (o1:=.inst 431 7) rfl rfl
  apply ng;clear ng
  refine .cons ⟨a1,?_,⟨[a0,a1],rfl,kC (ρ:=dm a) hF f0 jB.1 jB.2.1 rfl trivial y0 y1⟩,ok⟩ (.cons ⟨c1,?_,⟨[c0,c1],rfl,kC (ρ:=dm a) hF h0 jB.2.2.1 jB.2.2.2 ⟨rfl,rfl⟩ trivial z0 z1⟩,trivial⟩ .nil)
  ·show Value.ref ((as2.getD 3 0:Nat):Int).toNat=_
   rw [List.getD,f1]; rfl
  ·show Value.ref ((as2.getD 5 0:Nat):Int).toNat=_
   rw [List.getD,h1]; rfl
 | chr=>exact self | skp=>exact self | krn=>exact self | box2=>exact self | box3=>exact self | pck=>exact self | rul=>exact self | rul4=>exact self | pen=>exact self | mth=>exact self
theorem lY (hF:F.length=3):∀{Us:List Value} {ps:List (Nd×List Int)},All2 (Cu g F) Us ps->(∀p∈ps,p.1.ok)->All2 (fun V nd=>∃x,V = .ref x/\bQ g F x nd/\nd.ok) ((ps.flatMap (·.2)).map ak) ((ps.map (·.1)).flatMap Nd.flat)
 | _,_,.nil,_=>.nil
 | _,_,.cons x xs,h=>by
  refine aa List.flatMap_cons (aa List.map_append (aa List.map_cons (aa List.flatMap_cons ?_)))
  exact (xg hF x (h _ (.head _))).app (lY hF xs fun p m=>h p (.tail _ m))
end
structure SetK (ρ:Rho) (k:Nat):Prop where
 s:ρ.f 120 k 0 0=ρ.v 34
 o:ρ.f 121 k 0 0=ρ.v 35
 p:ρ.f 122 k 0 0=ρ.v 36
 q:ρ.f 123 k 0 0=ρ.v 37
theorem oM {x c md own gap b e u v:Int} {ls:Nat->List Int} {N:Nat->List Nd} {B:Nat->Bx} {nds:List Nd} {k:Nat} (hB:B k=aI (ad nds) gap):SetK (i5 (bU x c md own gap b e u v (PV nds gap)) ls N B) k:=by
 have eg:bJ (ad nds) 1 gap - (ad nds).n=gap:=by unfold bJ; rw [if_neg (by decide),Int.add_comm,Int.add_sub_cancel]
 have pv:∀j,(i5 (bU x c md own gap b e u v (PV nds gap)) ls N B).v (20 + j)=(PV nds gap).getD j 0:=fun j=>fY j
 have g:∀i,bh (ad nds) gap i=bh (ad nds) (bJ (ad nds) 1 gap - (ad nds).n) i:=fun i=>by exact aa eg rfl
 exact ⟨(congrArg Bx.s hB).trans ((g 12).trans (pv 14).symm),(congrArg Bx.o hB).trans ((g 13).trans (pv 15).symm),(congrArg Bx.p hB).trans ((g 14).trans (pv 16).symm),(congrArg Bx.q hB).trans ((g 15).trans (pv 17).symm)⟩
theorem Hz {ρ:Rho} {xw:Addr} {md own gap:Int} (v3:ρ.v 3=md) (v5:ρ.v 5=own) (v6:ρ.v 6=gap) (S:Same ρ 2057 md own gap) (K:SetK ρ 2057) (hm:md=0\/md=1) (hg : -9830400<=gap/\gap<=9830400) (ht : -72<=own/\own<=35100000)
  (c1:(CE.isl 12 1 none (some (.v 8))).den ρ) (c2:(CE.iref 1023 12 xw).den ρ) (c3:(CE.isl 11 1 (some (.v 9)) none).den ρ) (c4:(CE.icat 2057 1023 11).den ρ) (c5:(CE.isl 2012 201 none (some (.add (.v 8) (.c 1)))).den ρ) (c6:(CE.isl 2011 201 (some (.v 9)) none).den ρ) (c7:(CE.icat 6035 2012 2011).den ρ) (c8:(CE.ieq 2257 6035).den ρ):(zi xw).den ρ ρ:=by
 exact ⟨c1,c2,c3,c4,mH (X:=Ho xw) v3 v5 v6 S hm hg ht fun e h3 he s=>iK h3 he (nQ s (mC s ⟨K.s,K.o,K.p,K.q⟩ ⟨c5,c6,c7,c8,rfl,rfl,rfl,rfl,rfl,rfl,rfl,rfl,rfl,rfl,rfl,rfl,rfl,rfl,rfl,rfl,rfl,rfl,rfl⟩))⟩
theorem qb (P:Params):(dW P).drop 14=jk P 14 2++(dW P).drop 16:=by kernel_rfl
theorem bW {B:Bx} {l:List Nd}:(av B l).length=l.length + 1:=by
 unfold av
 rw [List.length_cons,f9]
section
variable {w:World} {A:Around} {gs:Array GenState} {dr:Drawn} {os:OsState} {G:Gr} {F:List Addr} {bs bs2:List Int} {nds nds2:List Nd} {env:Env} {h:Heap} {n:Nat} {as:List Addr} {b e:Nat} {gap:Int} {xw:Addr}
theorem Ex {x c md u v:Int} (hmd:md=0\/md=1) (HB0:HB w (OG w G)) (S:SR w (cz bs bs2 nds nds2 gap b e (bU x c md (ad nds).n gap b e u v (PV nds gap))) (OG w G) G env h (bI xw) as) (D:Drawn' w G F bs nds) (hg : -9830400<=gap/\gap<=9830400) (RD:RunD nds bs bs2 nds2 b e) (Wi:Within w G F bs (aG nds b e) b e xw) (esc:env.scope=fq w.params) (R:Room A 200) {Q:Flow->Shared->Prop} {E:Value->Shared->Prop}
  (q:∀h' n' as',SR w (cO bs nds gap b e xw (bU x c md (ad nds).n gap b e u v (PV nds gap))) (OG w G) G env h' (bI xw) as'->wpAny (model pr w) A (execs ((dW w.params).drop 16) env) Q E ⟨h',gs,dr,n',os⟩) :
  wpAny (model pr w) A (execs ((dW w.params).drop 14) env) Q E ⟨h,gs,dr,n,os⟩:=by
 have hl:=D.len
 have hhi:=D.hi
 have S0:=S.re (ρ':=cO bs nds gap b e xw (bU x c md (ad nds).n gap b e u v (PV nds gap))) (s':=bI xw) (List.range 10) (zR xw) (zK rfl rfl rfl)
 have HW:H2 w (cO bs nds gap b e xw (bU x c md (ad nds).n gap b e u v (PV nds gap))) (OG w G) (uT [2057]) 81:=⟨HB0,by (first | decide | lia | omega),nv (JC D hg RD Wi)⟩
 have sm:Same (cO bs nds gap b e xw (bU x c md (ad nds).n gap b e u v (PV nds gap))) 2057 md (ad nds).n gap:=jU (nds:=nds) (jx RD) (by
  have:=D.lo
  show (uP nds b e).isEmpty=nds.isEmpty
  unfold uP
  induction nds using List.casesOn with
  | nil=>simp at this
  | cons a r=>simp) rfl
 have sk:SetK (cO bs nds gap b e xw (bU x c md (ad nds).n gap b e u v (PV nds gap))) 2057:=oM rfl
 have sl:(av (aI (ad nds) gap) nds).length<=1000:=by refine aa bW ?_; (first | decide | lia | omega)
 have lt:∀k,(bs.take k).length<=1000:=fun k=>by refine aa List.length_take ?_; (first | decide | lia | omega)
 have ld:∀k,(bs.drop k).length<=1000:=fun k=>by refine aa List.length_drop ?_; (first | decide | lia | omega)
 have st:∀k,((av (aI (ad nds) gap) nds).take k).length<=1000:=fun k=>by refine aa List.length_take ?_; (first | decide | lia | omega)
 have sd:∀k,((av (aI (ad nds) gap) nds).drop k).length<=1000:=fun k=>by refine aa List.length_drop ?_; (first | decide | lia | omega)
 rw [qb]
 refine aH (iM (ρ':=cO bs nds gap b e xw (bU x c md (ad nds).n gap b e u v (PV nds gap))) HW esc (Bw w.params xw) (R.le (by (first | decide | lia | omega))) S0 (Hz (md:=md) (own:=(ad nds).n) (gap:=gap) rfl rfl rfl sm sk hmd hg (by have:=D.fit.n; (first | decide | lia | omega)) ?_ ?_ ?_ ?_ ?_ ?_ ?_ ?_) fun h1 as1 n1 S1 p1=>?_)
 ·exact ⟨trivial,by show (0:Int)<=b; (first | decide | lia | omega),rfl,by show bs.length<=1000; (first | decide | lia | omega)⟩
 ·exact ⟨rfl,lt b⟩
 ·exact ⟨by show (0:Int)<=e; (first | decide | lia | omega),trivial,rfl,by show bs.length<=1000; (first | decide | lia | omega)⟩
 ·exact ⟨rfl,by show (bs.take b++[(xw:Int)]).length<=1000; refine aa List.length_append (aa List.length_take (aa List.length_singleton ?_)); (first | decide | lia | omega),ld e⟩
 ·exact ⟨trivial,by show (0:Int)<=b + 1; (first | decide | lia | omega),rfl,sl⟩
 ·exact ⟨by show (0:Int)<=e; (first | decide | lia | omega),trivial,rfl,sl⟩
 ·exact ⟨rfl,st (b + 1),sd e⟩
 ·exact qW D hg RD
 exact q h1 n1 _ S1
end
noncomputable def F4 (P:Params):Stmt:=(dW P).getD 16 (.Pass default)
noncomputable def uR (P:Params):Expr:=LC (ch (F4 P))
noncomputable def Kn (P:Params):Expr:=ED (ch (F4 P))
noncomputable def zk (P:Params):Expr:=q8 (uR P)
noncomputable def Nv:Expr->Expr | .Subscript o _ _=>o | e=>e
noncomputable def NR:Expr->Expr | .Subscript _ i _=>i | e=>e
noncomputable def IR:Expr->Pos | .Subscript _ _ p=>p | e=>e.pos
noncomputable def nO (P:Params):Expr:=Nv (CZ (zk P))
noncomputable def nI (P:Params):Expr:=NR (CZ (zk P))
noncomputable def zD (P:Params):Expr:=CJ (uR P)
noncomputable def zY (P:Params):Expr:=.Call (.Name (bj (ax (zD P))) (aS (ax (zD P)))) [bq (zD P)] [] (cg (zD P))
noncomputable def BX (P:Params):Expr:=.BinOp (.Subscript (.Name (bj (nO P)) (aS (nO P))) (.Name (bj (nI P)) (aS (nI P))) (IR (CZ (zk P)))) .Add (.Name (bj (Ck (zk P))) (aS (Ck (zk P)))) (Ml (zk P))
theorem uV (P:Params):(dW P).drop 16 = .If (.Compare (.ListComp (BX P) [⟨.Name (S' "place") (aS (Cz (uR P))),zY P,[],0⟩] (kJ (uR P)) (xu (uR P))) [.NotEq] [Kn P] (Mq (ch (F4 P)))) (tQ (F4 P)) [] (rh (F4 P))::(dW P).drop 17:=by kernel_rfl
noncomputable def B7:List (Str×Nat):=[(S' "spots_told",3),(S' "begin",4)]
noncomputable def gu (ls:List (Str×AV)):St:=⟨ls,B7,lV,[]⟩
noncomputable def rL (P:Params):Scope:=bM (kJ (uR P)) (fq P)
theorem Ja (P:Params):cW (kJ (uR P)) (S' "place")=true/\cp (zY P)=false/\eK rb (kJ (uR P)).names []=some B7:=⟨by kernel_rfl,by kernel_rfl,by kernel_rfl⟩
theorem Gp (P:Params) (ls:List (Str×AV)):bB P aA 12 (rL P) (.Name (bj (nO P)) (aS (nO P))) (gu ls) = .leaf (.rt (.loc 9)) (gu ls):=by kernel_rfl
theorem FW (P:Params) (ls:List (Str×AV)):bB P aA 12 (rL P) (.Name (bj (nI P)) (aS (nI P))) (gu ls) = .leaf (.rt (.int (.v 8))) (gu ls):=by kernel_rfl
theorem Gb (P:Params) (ls:List (Str×AV)) (p:Int):bB P aA 12 (rL P) (.Name (bj (Ck (zk P))) (aS (Ck (zk P)))) (gu ((S' "place",.int (.c p))::ls)) = .leaf (.rt (.int (.c p))) (gu ((S' "place",.int (.c p))::ls)):=by kernel_rfl
theorem C4 (P:Params) (ls:List (Str×AV)) (p:Int):bZ (rL P) (S' "place") (.int (.c p)) (gu ls) (fun s=>.leaf .nx s) = .leaf .nx (gu ((S' "place",.int (.c p))::ls)):=by kernel_rfl
theorem LN (P:Params) (xw:Addr):bB P aA 12 (fq P) (.Name (bj (ax (zD P))) (aS (ax (zD P)))) (bI xw) = .leaf (.rt (.glb (.ref 644))) (bI xw):=by kernel_rfl
theorem HL (P:Params) (xw:Addr) (k:List AV->St->Tr):m7 (fJ P aA 12) (fq P) [bq (zD P)] (bI xw) k=k [.glb (.ref xw)] (bI xw):=by kernel_rfl
theorem Ix (P:Params):keepIn (K P) (.ref 644)=true:=by kernel_rfl
theorem Gk (P:Params):([bq (zD P)].all fun e=>!aK e)=true/\behindInMarks .NotEq (Kn P)=false:=⟨by kernel_rfl,by kernel_rfl⟩
theorem BN (p q:Int) (s:St) (k:AV->St->Tr):uz .Add (.int (.c q)) (.int (.c p)) s k=k (.int (.c (q + p))) s:=by kernel_rfl
noncomputable def Di (xw:Addr):St:=⟨qx xw,rb,lV++[.il 2013 []],[]⟩
noncomputable def Ms:List Nat:=[0,1,2,3,4,5,6,7,8,9,10]
noncomputable def FD (xw:Addr):List Ob1:=[.ie (.v 8) (.v 8),.rf 1 1,.ie (.v 36) (.v 36),.ie (.v 37) (.v 37),.ie (.v 38) (.v 38),.ie (.v 39) (.v 39),.ie (.c 2) (.c 2),.ie (.v 33) (.v 33),.ie (.v 20) (.v 20),.ie (.v 21) (.v 21),.ie (.c 0) (.c 0),.ie (.v 34) (.v 34),.ie (.v 35) (.v 35),.il 201 [] 201 [],.il 2013 [] 2013 [],.val (.ref xw) (.ref xw),.ie (.v 9) (.v 9),.ie (.v 6) (.v 6),.ie (.v 5) (.v 5),.ie (.v 3) (.v 3)]
theorem Ed (xw:Addr):aN (List.range 10) (Di xw) (bI xw)=some (uB xw):=by kernel_rfl
theorem KJ (P:Params) (xw:Addr):(bB P aA 16 (fq P) (Kn P) (bI xw)).vc Ms (.rt (.loc 10)) (Di xw) = .req (.isl 2013 201 (some (.v 8)) (some (.add (.v 9) (.c 1)))) (.ok (FD xw)):=by kernel_rfl
theorem lh:∀{Vs:List Value} {ns:List Int} {i:Nat} {V:Value},IntsAre Vs ns->Vs[i]? = some V->∃p t,ns[i]? = some p/\V = .int p t
 | _,_,0,V,.cons n t _,e=>by cases e; exact ⟨_,_,rfl,rfl⟩
 | _,_,i + 1,V,.cons n t x,e=>lh (i:=i) x e
theorem eB:∀{Vs:List Value} {ns:List Int},IntsAre Vs ns->Vs.length=ns.length
 | _,_,.nil=>rfl
 | _,_,.cons n t x=>congrArg (· + 1) (eB x)
theorem jz:∀{Vs:List Value} {ns:List Int} {i:Nat} {p:Int},IntsAre Vs ns->ns[i]? = some p->∃t,Vs[i]? = some (.int p t)
 | _,_,0,_,.cons n t _,e=>by cases e; exact ⟨_,rfl⟩
 | _,_,i + 1,_,.cons n t x,e=>jz (i:=i) x e
theorem jE:∀{Vs:List Value} {ns:List Int} {p:Int} {t:Tok},IntsAre Vs ns->IntsAre (Vs++[.int p t]) (ns++[p])
 | _,_,_,_,.nil=>.cons _ _ .nil
 | _,_,_,_,.cons n t x=>.cons n t (jE x)
section
variable {w:World} {ρ:Rho} {O:Opq} {A:Around} {gs:Array GenState} {dr:Drawn} {os:OsState} {g G:Gr} {env:Env} {h:Heap} {n:Nat} {as:List Addr}
theorem u8 {cenv:Env} {ls:List (Str×AV)} {p q0:Int} {t:Tok} {b:Nat} (HB0:HB w (OG w g)) (R:Room A 100) (csc:cenv.scope=rL w.params) (S:SR w ρ (OG w g) G cenv h (gu ls) as) (v8:ρ.v 8=b) (hb:(ρ.l 201)[b]? = some q0) (hlt:(ρ.l 201).length<=1000)
  {E1 E2:Value->Shared->Prop} {Q:Value->Shared->Prop} (q:∀t' h' n' as' ls',SR w ρ (OG w g) G cenv h' (gu ls') as'->aM as as'->Q (.int (q0 + p) t') ⟨h',gs,dr,n',os⟩) :
  wpAny (model pr w) A (storeName cenv (S' "place") (.int p t)) (fun zw s₂=>wpAny (model pr w) A (eval (BX w.params) cenv) Q E1 s₂) E2 ⟨h,gs,dr,n,os⟩:=by
 have HH:∀{ρ:Rho},H2 w ρ (OG w g) aA 2:=H2.no HB0
 have RR:Room A (12 + 2):=R.le (by (first | decide | lia | omega))
 refine aW (post:=fun f s=>s=gu ((S' "place",.int (.c p))::ls)) (v:=.int (.c p)) (k:=fun s=>.leaf .nx s) (by rw [csc,C4]; rfl) S ⟨t,rfl⟩ fun s6 h6 n6 y6 S6=>?_
 have y6:s6=_:=y6
 apply bc;intro ng
 subst y6
 apply ng;clear ng
 refine wpAny_BinOp (Subscript_ (oy HH csc (Gp w.params _) RR S6 fun V h7 as7 n7 S7 p7 dv=>oy HH csc (FW w.params _) RR S7 fun U h8 as8 n8 S8 p8 du=>?_))
 apply bc;intro ng
 obtain ⟨a9,e9,⟨Ws,w1,w2⟩,-⟩:=S8.get (i:=9) (o:=.fz (.il 201 [])) rfl
 obtain ⟨a,ea,rfl⟩:=dv
 rw [p8.get ea] at e9; cases e9
 obtain ⟨t8,rfl⟩:=du
 have w1:IntsAre Ws (ρ.l 201++[]):=w1
 rw [List.append_nil] at w1
 obtain ⟨tq,hq⟩:=jz w1 hb
 apply ng;clear ng
 have l:h8.IsList a9 Ws.toArray:=(At.pl (w2.le (k:=fun o e=>S8.kp _ _ (S8.og _ _ e)))).lst
 have e8:(IE.v 8).den ρ=(b:Int):=v8
 refine aa e8 ?_
 refine tail_any (s:=⟨h8,gs,dr,n8,os⟩) l.typeIs slot_list_getitem.lookup (wpAny_getItem_list (s:=⟨h8,gs,dr,n8,os⟩) l (by (first | decide | lia | omega)) (by have:=(List.getElem?_eq_some_iff.mp hb).1; (first | decide | lia | omega)) (x:=.int q0 tq) (by simpa using hq) ?_) (dN rfl _ _)
 refine oy HH csc (Gb w.params _ p) RR S8 fun X h9 as9 n9 S9 p9 dx=>?_
 refine kY (a:=.int (.c q0)) (b:=.int (.c p)) (s:=gu ((S' "place",.int (.c p))::ls)) (post:=fun f s=>f = .rt (.int (.c (q0 + p)))/\s=gu ((S' "place",.int (.c p))::ls)) (k:=fun v s=>.leaf (.rt v) s) (by rw [BN]; exact ⟨rfl,rfl⟩) S9 ⟨tq,rfl⟩ dx fun v Z s1 h10 as10 n10 y S10 p10 dz=>?_
 apply bc;intro ng
 obtain ⟨y1,y2⟩:=y
 cases y1
 subst y2
 obtain ⟨t',rfl⟩:=dz
 apply ng;clear ng
 exact q t' h10 n10 as10 _ S10 (((p7.trans p8).trans p9).trans p10)
end
theorem Ef {r1 r2:Rho} {xw:Addr} (e:r1=r2):bE r1 r2 (FD xw):=by
 subst e
 exact ⟨rfl,rfl,rfl,rfl,rfl,rfl,rfl,rfl,rfl,rfl,rfl,rfl,rfl,rfl,rfl,rfl,rfl,rfl,rfl,rfl⟩
def Nz (ρ0:Rho) (out:List Int) (q0:Int) (i:Nat) (Gi:Gr) (ρ:Rho) (s:St) (Us:List Value):Prop:=ρ=ρ0/\s=gu s.ls/\IntsAre Us ((out.take i).map (q0 + ·))
section
variable {w:World} {A:Around} {gs:Array GenState} {dr:Drawn} {os:OsState} {G:Gr} {F:List Addr} {bs bs2:List Int} {nds nds2:List Nd} {env:Env} {h:Heap} {n:Nat} {as:List Addr} {b e:Nat} {gap:Int} {xw:Addr}
set_option tactic.hygienic true
theorem FZ {x c md u v:Int} (HB0:HB w (OG w G)) (S:SR w (cO bs nds gap b e xw (bU x c md (ad nds).n gap b e u v (PV nds gap))) (OG w G) G env h (bI xw) as) (D:Drawn' w G F bs nds) (hg : -9830400<=gap/\gap<=9830400) (RD:RunD nds bs bs2 nds2 b e) (Wi:Within w G F bs (aG nds b e) b e xw) (esc:env.scope=fq w.params) (R:Room A 200) {Q:Flow->Shared->Prop} {E:Value->Shared->Prop}
  (q:∀G' h' n' as',bf G G'->HB w (OG w G')->SR w (cO bs nds gap b e xw (bU x c md (ad nds).n gap b e u v (PV nds gap))) (OG w G') G' env h' (bI xw) as'->Drawn' w G' F bs nds->wpAny (model pr w) A (execs ((dW w.params).drop 17) env) Q E ⟨h',gs,dr,n',os⟩) :
  wpAny (model pr w) A (execs ((dW w.params).drop 16) env) Q E ⟨h,gs,dr,n,os⟩:=by
 have hl:=D.len
 have hhi:=D.hi
 have hbn:=RD.hb
 have HH:∀{ρ:Rho},H2 w ρ (OG w G) aA 2:=H2.no HB0
 have RR:Room A (12 + 2):=R.le (by (first | decide | lia | omega))
 have v8:(cO bs nds gap b e xw (bU x c md (ad nds).n gap b e u v (PV nds gap))).v 8=(b:Int):=rfl
 have l201:(cO bs nds gap b e xw (bU x c md (ad nds).n gap b e u v (PV nds gap))).l 201=av (aI (ad nds) gap) nds:=rfl
 have l2013:(cO bs nds gap b e xw (bU x c md (ad nds).n gap b e u v (PV nds gap))).l 2013=((av (aI (ad nds) gap) nds).take (e + 1)).drop b:=rfl
 have isl:(CE.isl 2013 201 (some (.v 8)) (some (.add (.v 9) (.c 1)))).den (cO bs nds gap b e xw (bU x c md (ad nds).n gap b e u v (PV nds gap))) :=
  ⟨by show (0:Int)<=b; (first | decide | lia | omega),by show (0:Int)<=e + 1; (first | decide | lia | omega),rfl,by refine aa l201 (aa bW ?_); (first | decide | lia | omega)⟩
 generalize cO bs nds gap b e xw (bU x c md (ad nds).n gap b e u v (PV nds gap))=ρ at S q v8 l201 l2013 isl
 have rs:=pU (gap:=gap) D hg RD
 apply bc;intro ng
 obtain ⟨q0,hq0⟩:∃q0,(av (aI (ad nds) gap) nds)[b]? = some q0:=⟨_,List.getElem?_eq_getElem (by refine aa bW ?_; (first | decide | lia | omega))⟩
 have gq:(av (aI (ad nds) gap) nds).getD b 0=q0:=by rw [List.getD,hq0]; rfl
 rw [gq] at rs
 have lrun:(aG nds b e).length<=9:=by unfold aG; refine aa List.length_drop (aa List.length_take ?_); (first | decide | lia | omega)
 obtain ⟨aw,la,bx⟩:=Wi.bx
 apply ng;clear ng
 rw [uV]
 apply bc;intro ng
 obtain ⟨c1,c2,c3⟩:=Ja w.params
 obtain ⟨Res,r1,r2⟩:=rI (w:=w) (px:=aS (Cz (uR w.params))) (elt:=BX w.params) (iter:=zY w.params) (pos:=xu (uR w.params)) c1 c2 c3 S.cc
 apply ng;clear ng
 refine wpAny_execs_cons (wpAny_If (wpAny_isTrue_Compare1 (r2 (jv (Ix w.params) (Gk w.params).1 (oy HH esc (LN w.params xw) RR S fun V h1 as1 n1 S1 p1 dv=>⟨dv,?_⟩))) (Gk w.params).2))
 refine cQ (post:=fun f s=>f = .rt (.glb (.ref xw))/\s=bI xw) (k:=k1) (HH.run 12) RR (by refine aa esc ?_; exact (congrArg (fun t=>Tr.ok _ _ t) (HL w.params xw k1)).mpr ⟨rfl,rfl⟩) S1 fun vs1 Ws s2 h2 as2 n2 y2 S2 p2 dvs hws=>⟨S2.k,?_⟩
 clear hws
 apply bc;intro ng
 obtain ⟨rfl,rfl⟩:=tD (s0:=bI xw) y2
 apply ng;clear ng
 cases dvs; rename_i d1 dvs; cases dvs
 have d1:_=_:=d1
 apply bc;intro ng
 subst d1
 apply ng;clear ng
 have f3:=jV (nq (nt (b:=b) (e:=e) D)) lrun
 refine oR (g:=G) (F:=F) S2.wd S2.kp D.fo ⟨la.pl,(nt (b:=b) (e:=e) D).mono fun zw zw ⟨b,e,a,b1,_⟩=>⟨b,e,a,b1⟩⟩ bx (cI f3 (by (first | decide | lia | omega)) (by (first | decide | lia | omega))) (by (first | decide | lia | omega)) (R.le (by (first | decide | lia | omega))) fun V3 h3 n3 xs C3 dv3=>?_
 apply bc;intro ng
 obtain ⟨y,ey,rfl⟩:=dv3
 obtain ⟨⟨Vs,i1,i2⟩,own3⟩:=C3.ob 5 _ y (rfl:IY[5]? = some (.il 0 [])) ey
 have own3:h2.get? y=none:=own3 rfl
 have i1:IntsAre Vs (av (aI (ad (aG nds b e)) 0) (aG nds b e)):=by
  have i1:IntsAre Vs ((bw (aI (ad (aG nds b e)) 0) (aG nds b e)).out++[]):=i1
  rw [List.append_nil,cr] at i1; exact i1
 have S3:=S2.stay (h':=h3) fun a o e=>C3.kp a o e
 obtain ⟨S3w,le3⟩:=S3.wide
 apply ng;clear ng
 have aty:At (dA h3 env.locals (bI xw).ob as2) y (.pl Vs):=by
  apply bc;intro ng
  obtain ⟨o,e1,e2⟩:=i2
  apply ng;clear ng
  refine ⟨o,?_,e2⟩
  unfold dA
  rw [if_neg]
  ·exact e1
  ·rintro (z | z)
   ·obtain ⟨fn,⟨oL,es,ep,l2,l3⟩,_⟩:=S2.lc
    rw [<- z,own3] at l2; exact ap l2
   ·obtain ⟨j,oj,z1,z2,z3⟩:=dF.mp z
    apply bc;intro ng
    obtain ⟨u,eu⟩:=((S2.ob j oj y z1 z3).1).ex z2
    apply ng;clear ng
    rw [own3] at eu; exact ap eu
 generalize dA h3 env.locals (bI xw).ob as2=GW at S3w le3 aty
 have hlist:h3.IsList y Vs.toArray:=(aty.pl.le (S3w.kp _)).lst
 refine wpAny_pyIter_list (s:=⟨h3,gs,dr,n3,os⟩) hlist ?_
 apply bc;intro ng
 obtain ⟨off,gi⟩:=jl S3w
 apply ng;clear ng
 have S4:=S3w.stay (h':=h3.push { cls:=.type "list_iterator",data:=.fields #[.ref y,rawInt 0] }) fun zw zw e=>Heap.get?_push_of_some _ e
 have j0:(h3.push { cls:=.type "list_iterator",data:=.fields #[.ref y,rawInt 0] }).IsListIter h3.objs.size y 0:=⟨_,Heap.get?_push_size _ rfl,rfl,rfl⟩
 show Cr _ _ _ _ _ _ _ _ _ _ _ _ _ _ ⟨h3.push { cls:=.type "list_iterator",data:=.fields #[.ref y,rawInt 0] },gs,dr,n3,os⟩
 generalize h3.push { cls:=.type "list_iterator",data:=.fields #[.ref y,rawInt 0] }=h4 at S4 j0
 generalize h3.objs.size=it at off gi j0
 have hcc:∀x i,B7.lookup x=some i->∃a,as2[i]? = some a/\Res.lookup x=some a:=fun x i e=>let ⟨b,z1,z2⟩:=r1 x i e; ⟨b,p2.get (p1.get z1),z2⟩
 have lv:=eB i1
 rw [bW] at lv
 apply bc;intro ng
 obtain ⟨fL,⟨oL,es,ep,l2,l3,l4⟩,lk⟩:=id S4.lc
 apply ng;clear ng
 refine zP (d:=0) (fx:=(List.range 10).zip as2) (N:=Vs.length) (R.le (m:=0) (by (first | decide | lia | omega))) c1 hcc S4 (Nxt.list aty.pl) j0 (by (first | decide | lia | omega)) gi off (Nz ρ (av (aI (ad (aG nds b e)) 0) (aG nds b e)) q0) (fun G' le=>⟨rfl,rfl,by refine aa List.take_zero ?_; exact .nil⟩) (iw.mpr fun i a zw e=>e) ?_ ?_
 ·rintro i G1' G' ρ' s Us cenv h5 n5 as5 V ac hi hV zq28 gg g1 fr ex hL lac nia csc nel S5 fxk T E1 E2 qT
  apply bc;intro ng
  obtain ⟨rfl,hs,hT⟩:=zq28
  rw [hs] at S5
  obtain ⟨p,t,hp,rfl⟩:=lh i1 hV
  apply ng;clear ng
  refine u8 (b:=b) (q0:=q0) (p:=p) (t:=t) HB0 (R.le (by (first | decide | lia | omega))) (by refine aa csc (aa esc ?_); rfl) S5 v8 (by refine aa l201 ?_; exact hq0) (by refine aa l201 (aa bW ?_); (first | decide | lia | omega)) fun t' h6 n6 as6 ls' S6 p6=>?_
  refine qT _ _ _ h6 n6 as6 G' (fun zw zw e=>e) ⟨rfl,rfl,?_⟩ S6 fun p m=>p6.get (fxk p m)
  refine aa List.take_add_one (aa hp (aa List.map_append ?_))
  exact jE hT
 ·rintro ρ' s' h' n' as' G' ac Us zq29 gg back fxk la of ga
  apply bc;intro ng
  obtain ⟨rfl,hs,hT⟩:=zq29
  apply ng;clear ng
  have fz:=iw.mp fxk
  have ob':s'.ob=lV:=by refine aa hs ?_; rfl
  rw [ob'] at back of
  have S5:=back (qx xw) rb (fun x v e=>⟨v,e,fun V d=>by
   cases v <;> first | exact d | (obtain ⟨a,ea,z⟩:=d; exact ⟨a,fz _ a (by have:=(List.getElem?_eq_some_iff.mp ea).1; have sz:as2.length=10:=S2.sz; (first | decide | lia | omega)) ea,z⟩)⟩) fun x i e=>⟨i,e,fun a ea=>fz i a (by have:=(List.getElem?_eq_some_iff.mp ea).1; have sz:as2.length=10:=S2.sz; (first | decide | lia | omega)) ea⟩
  have S5:SR w ρ' (OG w G) (strip [env.locals] G') env h' (bI xw) as':=S5
  have fr:∀a∈[ac],strip [env.locals] G' a=none:=fun a m=>by refine aa (List.mem_singleton.mp m) ?_; exact ga
  have S6:=S5.pin (l:=[ac]) of fr
  have acG:∀o,h'.get? ac=some o->(Gr.add (strip [env.locals] G') h' [ac]) ac=some o:=fun o e=>by unfold Gr.add; refine aa (if_pos (.head _)) ?_; exact e
  have leA:=bf.add (h:=h') fr
  refine qH (ρ':=ρ') HH esc (KJ w.params xw) (R.le (by (first | decide | lia | omega))) S6 ⟨isl,Ef rfl⟩ fun V h7 as7 n7 S7 p7 dv=>?_
  generalize (Ms.map fun j=>as7.getD j 0)=as8 at S7 dv
  apply bc;intro ng
  obtain ⟨z,ez,rfl⟩:=dv
  obtain ⟨⟨Zs,z1,z2⟩,-⟩:=S7.ob 10 (.il 2013 []) z rfl ez
  apply ng;clear ng
  have z1:IntsAre Zs (ρ'.l 2013++[]):=z1
  rw [List.append_nil,l2013,<- rs] at z1
  rw [List.take_of_length_le (by refine aa lv (aa bW ?_); exact Nat.le_refl _)] at hT
  have la7:At h7.get? ac (.pl Us):=la.le fun o e=>S7.kp _ _ (acG o e)
  refine iI (op:=.NotEq) (.inr rfl) (by have:=R.un; (first | decide | lia | omega)) la7.pl z2.pl ((eB hT).trans (eB z1).symm) (fun j h1 h2=>j8 hT z1 j h1 h2) (wpAny_truthy_bool ?_)
  refine wpAny_execs_nil ?_
  have S8:=S7.re (ρ':=ρ') (s':=bI xw) (List.range 10) (Ed xw) (zK rfl rfl rfl)
  generalize ((List.range 10).map fun j=>as8.getD j 0)=as9 at S8
  have S9:=S8.grow k6
  have gl:=S8.growLe k6
  have e3:({ bI xw with ob:=hA k6 0 (bI xw).ob }:St)=bI xw:=by
   show ({ bI xw with ob:=hA k6 0 lV }:St)=bI xw
   refine aa EE ?_; rfl
  rw [e3] at S9
  have l3:bf G (mt h7 env.locals (k6.filterMap (bY (bI xw).ob as9))):=fun a o e=>gl a o (leA a o (gg a o (le3 a o e)))
  exact q _ h7 n7 as9 l3 (let ⟨hb,W,kb⟩:=HB0; ⟨hb,W,fun a o e=>l3 a o (kb a o e)⟩) S9 (D.le l3)
set_option tactic.hygienic false
end
theorem qo (P:Params):(dW P).drop 17=jk P 17 4:=by kernel_rfl
theorem lH:∀l:List Nd,(l.flatMap Nd.flat).length<=2 * l.length
 | []=>Nat.le_refl _
 | ⟨k,a⟩::r=>by
  refine aa List.flatMap_cons (aa List.length_append (aa List.length_cons ?_))
  have:=lH r
  have h:(Nd.flat ⟨k,a⟩).length<=2:=by cases k <;> simp [Nd.flat]
  (first | lia | omega)
noncomputable def NQ (bs ts:List Int) (nds:List Nd) (gap:Int) (k:Nat):List Int :=
 if k=1 then bs else if k=5 then ts else if k=201 then av (aI (ad nds) gap) nds else if k=205 then av (aI (ad nds) gap) (nds.flatMap Nd.flat) else []
noncomputable def jS (bs ts:List Int) (nds:List Nd) (gap:Int) (vs:List Int):Rho:=i5 vs (NQ bs ts nds gap) (fun zw=>nds.flatMap Nd.flat) fun zw=>aI (ad nds) gap
noncomputable def lG (L:Int) (r:Rho):Rho:=⟨fun i=>if i=701 then L else if i=705 then L else r.v i,r.f,r.l⟩
theorem Nx {ρ ρ':Rho} {xw:Addr} {md own gap:Int} (v3:ρ.v 3=md) (v5:ρ.v 5=own) (v6:ρ.v 6=gap) (S:ρ.l 5≠[]->Same ρ 5 md own gap) (K:SetK ρ 5) (hm:md=0\/md=1) (hg : -9830400<=gap/\gap<=9830400) (ht : -72<=own/\own<=35100000)
  (c1:(CE.last 205 (.v 705)).den ρ) (c2:(CE.last 201 (.v 701)).den ρ) (c3:ρ.v 705=ρ.v 701):(E6 xw).den ρ ρ':=by
 exact ⟨fun zw=>trivial,fun hn=>mH (X:=eC) v3 v5 v6 (S hn) hm hg ht fun e h3 he s=>iK h3 he (nQ s (mC s ⟨K.s,K.o,K.p,K.q⟩ ⟨c1,c2,fun zw=>trivial,fun z=>z c3⟩))⟩
section
variable {w:World} {A:Around} {gs:Array GenState} {dr:Drawn} {os:OsState} {G:Gr} {F:List Addr} {bs bs2:List Int} {nds nds2:List Nd} {env:Env} {h:Heap} {n:Nat} {as:List Addr} {b e:Nat} {gap:Int} {xw:Addr}
theorem xO {ρ:Rho} {cs:List Nat} {N:Nat->List Nd} {B:Nat->Bx} (h30:ρ.f 30=bu) (h31:ρ.f 31=cb) (L:LawE w G F ρ cs N B):ay w ρ (OG w G) (uT cs) 81 :=
 ay.or (ay.le (d:=40) (d8 h30 h31) (by (first | decide | lia | omega))) (ay.or (um L) (ay.le (d:=41) (th L) (by (first | decide | lia | omega))))
theorem F1 {x c md u v:Int} (hmd:md=0\/md=1) (HB0:HB w (OG w G)) (S:SR w (cO bs nds gap b e xw (bU x c md (ad nds).n gap b e u v (PV nds gap))) (OG w G) G env h (bI xw) as) (D:Drawn' w G F bs nds) (hg : -9830400<=gap/\gap<=9830400) (esc:env.scope=fq w.params) (R:Room A 200) {Q:Flow->Shared->Prop} {E:Value->Shared->Prop}
  (q:∀h' n',bf G h'.get?->Q (.ret (.bool true)) ⟨h',gs,dr,n',os⟩) :
  wpAny (model pr w) A (execs ((dW w.params).drop 17) env) Q E ⟨h,gs,dr,n,os⟩:=by
 have hl:=D.len
 have hhi:=D.hi
 have it:All2 (fun V nd=>∃x,V = .ref x/\bQ G F x nd/\nd.ok) (bs.map ak) nds:=D.it.mono fun zw zw ⟨b,e,a,b1,_⟩=>⟨b,e,a,b1⟩
 apply bc;intro ng
 obtain ⟨ps,hps,FL⟩:=Fh it
 have oks:∀p∈ps,p.1.ok:=fun p m=>by
  obtain ⟨i,ei⟩:=List.mem_iff_getElem?.mp m
  have e2:nds[i]? = some p.1:=by refine aa (Eq.symm hps) (aa (List.getElem?_map) (aa ei ?_)); rfl
  obtain ⟨V,_,b,_,_,ok⟩:=it.rget e2
  exact ok
 have itf:=lY D.fo.len FL oks
 rw [hps] at itf
 obtain ⟨ts,hts⟩:∃ts,ts=ps.flatMap (·.2):=⟨_,rfl⟩
 rw [<- hts] at itf
 have fl:=lH nds
 have lts:=itf.len'
 rw [List.length_map] at lts
 have sB:(aI (ad nds) gap).ok:=cI D.fit (by (first | decide | lia | omega)) (by (first | decide | lia | omega))
 obtain ⟨L,hL⟩:∃L,(av (aI (ad nds) gap) nds).getLast? = some L:=⟨_,fE sB nds⟩
 apply ng;clear ng
 have hL2:=(pN sB nds).trans hL
 have Lw:LawE w G F (jS bs ts nds gap (bU x c md (ad nds).n gap b e u v (PV nds gap))) [5] (fun zw=>nds.flatMap Nd.flat) fun zw=>aI (ad nds) gap:=by
  have one:∀k∈[5],k=5:=fun k m=>List.mem_singleton.mp m
  refine ik D.fo (fun k m=>?_) (fun k m=>?_) (fun k m=>by (first | decide | lia | omega)) (fun k m=>sB) fun k m=>?_
  ·refine aa (one k m) ?_; exact itf
  ·rw [fP]; exact D.fit.up (by (first | decide | lia | omega))
  ·rw [one k m,cr]; rfl
 have Lw2:LawE w G F (lG L (jS bs ts nds gap (bU x c md (ad nds).n gap b e u v (PV nds gap)))) [5] (fun zw=>nds.flatMap Nd.flat) fun zw=>aI (ad nds) gap:=⟨Lw.fo,Lw.it,Lw.fit,Lw.len,Lw.hp,Lw.bx,Lw.pl⟩
 have lo:∀i,i < 701->(lG L (jS bs ts nds gap (bU x c md (ad nds).n gap b e u v (PV nds gap)))).v i=(jS bs ts nds gap (bU x c md (ad nds).n gap b e u v (PV nds gap))).v i:=fun i hi=>by
  show (if i=701 then L else if i=705 then L else _)=_
  exact aa (if_neg (by (first | decide | lia | omega))) (aa (if_neg (by (first | decide | lia | omega))) rfl)
 have S0:=S.re (ρ':=lG L (jS bs ts nds gap (bU x c md (ad nds).n gap b e u v (PV nds gap)))) (s':=bI xw) (List.range 10) (zR xw) (tA (fun i hi=>(lo i (by (first | decide | lia | omega))).symm) rfl rfl)
 have HW:H2 w (lG L (jS bs ts nds gap (bU x c md (ad nds).n gap b e u v (PV nds gap)))) (OG w G) (CL LL (uT [5])) 81 :=
  ⟨HB0,by (first | decide | lia | omega),ay.or (ay.le (d:=60) (Aj (F:=F) (ps:=ps) D.fo.len FL (by refine aa (Eq.symm hts) ?_; (first | decide | lia | omega)) hts) (by (first | decide | lia | omega))) (xO rfl rfl Lw2)⟩
 have sm:ts≠[]->Same (jS bs ts nds gap (bU x c md (ad nds).n gap b e u v (PV nds gap))) 5 md (ad nds).n gap:=fun hne=>jU (nds:=nds) (fP nds) (by
  have:=D.lo
  show (nds.flatMap Nd.flat).isEmpty=nds.isEmpty
  have h1:nds.flatMap Nd.flat≠[]:=fun z=>by rw [z] at lts; exact hne (List.eq_nil_of_length_eq_zero lts)
  have h2:nds≠[]:=fun z=>by rw [z] at this; simp at this
  exact aa (List.isEmpty_eq_false_iff.mpr h1) (aa (List.isEmpty_eq_false_iff.mpr h2) rfl)) rfl
 have sk:SetK (jS bs ts nds gap (bU x c md (ad nds).n gap b e u v (PV nds gap))) 5:=oM rfl
 have rng:∀j,j∈[0,1,13,14,15,16,17,18,19]->20 + j < 701:=by decide
 have v3:=(lo 3 (by (first | decide | lia | omega))).trans (show _=md from rfl)
 have v5:=(lo 5 (by (first | decide | lia | omega))).trans (show _=(ad nds).n from rfl)
 have v6:=(lo 6 (by (first | decide | lia | omega))).trans (show _=gap from rfl)
 rw [qo]
 refine uO (ρ':=lG L (jS bs ts nds gap (bU x c md (ad nds).n gap b e u v (PV nds gap)))) HW esc (D1 w.params xw) (R.le (by (first | decide | lia | omega))) S0 (Nx (md:=md) (own:=(ad nds).n) (gap:=gap) v3 v5 v6 (fun hn=>⟨fun z j hj=>((sm hn).a1 z j hj).trans (lo _ (rng j hj)).symm,fun z j hj=>((sm hn).a0 z j hj).trans (lo _ (rng j hj)).symm⟩)
  ⟨sk.s.trans (lo 34 (by (first | decide | lia | omega))).symm,sk.o.trans (lo 35 (by (first | decide | lia | omega))).symm,sk.p.trans (lo 36 (by (first | decide | lia | omega))).symm,sk.q.trans (lo 37 (by (first | decide | lia | omega))).symm⟩ hmd hg (by have:=D.fit.n; (first | decide | lia | omega)) ⟨hL2,?_⟩ ⟨hL,?_⟩ rfl) fun V h1 as1 n1 S1 p1 dv=>?_
 ·show (av (aI (ad nds) gap) (nds.flatMap Nd.flat)).length<=1000; refine aa bW ?_; (first | decide | lia | omega)
 ·show (av (aI (ad nds) gap) nds).length<=1000; refine aa bW ?_; (first | decide | lia | omega)
 ·have dv:V = .bool true:=dv
  subst dv
  exact q h1 n1 S1.kp
end
section
variable {w:World} {A:Around} {gs:Array GenState} {dr:Drawn} {os:OsState} {h:Heap} {n:Nat}
theorem tw {l:Addr} {Vs:List Value} {ns:List Int} (W:Wd w h) (L:At h.get? l (.lst Vs)) (I:IntsAre Vs ns) (hz:Vs.length<=1000) (R:Room A 201) {Q:Value->Shared->Prop} {E:Value->Shared->Prop} (q:∀h' n',bf h.get? h'.get?->Q (.bool true) ⟨h',gs,dr,n',os⟩) :
  wpAny (model pr w) A (call (.ref 904) [.ref l]) Q E ⟨h,gs,dr,n,os⟩:=by
 refine F0 W L I hz R fun A' env h1 n1 as1 R1 esc S1 E'=>?_
 refine F6 ⟨h,W,fun zw zw e=>e⟩ S1 esc R1 fun G F bs nds x c h2 n2 as2 g1 S2 D hc=>?_
 have HB0:HB w (OG w G):=S2.bs
 refine Et HB0 S2 D hc esc R1 fun gap x c h3 n3 as3 S3 hg hc=>?_
 refine Eg HB0 S3 D ?_ esc R1 fun G h4 n4 as4 g2 HB0 S4 D=>?_
 ·show (bU x c (kI ns) (ad nds).n gap 0 0 0 0 (PV nds gap)).getD (20 + 13) 0=(ad nds).n + gap
  rw [fY]
  show bJ (ad nds) 1 gap=_
  unfold bJ; rw [if_neg (by (first | lia | omega))]
 refine Ea HB0 S4 D hg hc esc R1 fun G h5 n5 as5 bs2 nds2 b e u v xw g3 HB0 S5 D RD Wi=>?_
 refine Ex (j9 ns) HB0 S5 D hg RD Wi esc R1 fun h6 n6 as6 S6=>?_
 refine FZ HB0 S6 D hg RD Wi esc R1 fun G h7 n7 as7 g4 HB0 S7 D=>?_
 exact F1 (j9 ns) HB0 S7 D hg esc R1 fun h8 n8 g5=>q h8 n8 fun a o e=>g5 a o (g4 a o (g3 a o (g2 a o (g1 a o e))))
end
theorem sg (P:Params):nsIn (K P) mainGlobals (Str.ofString "law")=some (some (.ref 904)):=by kernel_rfl
set_option tactic.hygienic true
theorem walk2:∀(d:DefRec) (kwd:List (Str×Expr)),defOf qv (Str.ofString "law")=some (d,kwd)->WalkO qv looseN (XL qv []) HK.says PySem.Challenge.rw_sq0063_01.row.toRowW d kwd fun f vs=>PySem.call f vs:=by
 intro d kwd hdk
 have hdk':∃pos,defOf qv (Str.ofString "law")=some (⟨Str.ofString "law",(gF (cJ 102)).1,(gF (cJ 102)).2.1,(gF (cJ 102)).2.2,pos⟩,[]):=⟨_,rfl⟩
 obtain ⟨pos,hdk'⟩:=hdk'
 rw [hdk'] at hdk
 cases hdk
 intro w s₀ s₁ mg mb G Y fa o pm cd doc dV kV ho hd hcd hD hmg hg args vals as hpre hlay hrd hwl hlo
 have KX:=kIn_of Y
 refine Ground.open G ?_
 intro T B D TE TW
 wrow_args hpre hlay hrd hwl hlo
 rename_i ns hs hlay0 hLa hr1 hl2 as4 as3 l Vs as0 hL ra w1 r0 hI hr hlen htr
 have e904:fa=904:=by
  have z:=mg_of KX T.g (sg w.params)
  have z2:mg (Str.ofString "law")=some (.ref fa):=hmg
  rw [z2] at z
  cases z; rfl
 subst e904
 have W:Wd w s₁.heap:=⟨KX,_,_,_,_,_,T⟩
 have hn:Vs.length=ns.length:=eB hI
 show wpAny (model pr w) callerA (call (.ref 904) [.ref l]) _ _ ⟨s₁.heap,s₁.gens,s₁.drawn,s₁.toks,s₁.os⟩
 refine tw W hL hI (by (first | lia | omega)) ⟨rfl,by decide,by decide⟩ fun h' n' k=>GoodW.toG ?_
 refine ⟨.inl ⟨_,.bool true,[],rfl,raisesW_false (by wrow_none_raised),.bool _,?_,unshared_nil⟩,k,rfl,hg⟩
 wrow_post
set_option tactic.hygienic false
theorem Dy:PySem.W.Fast.tw9446332074065402090 PySem.Challenge.rw_sq0063_01=true:=by kernel_rfl
theorem said1:PySem.Challenge.rw_sq0063_01.wellSaid=true:=(congrFun PySem.W.Fast.te9446332074065402090 _).trans Dy

end Mine
theorem PySem.Challenge.cw_sq0063_01_holds : PySem.Challenge.rw_sq0063_01.Holds := by
  refine holds_law Mine.said1 fun said => ?_
  refine PySem.W.holds_open (q := Mine.qv) (loose := Mine.looseN) (Xt := Mine.XtO) (XP := XL Mine.qv []) (Yf := Mine.HK.obs) (Ya := Mine.HK.val) (YP := Mine.HK.says) (N := 8000) Mine.left (Hook.of Mine.HK) (Hook.keeps Mine.HK) (fun s e => xl_of s (Bool.and_eq_true_iff.mp e).1) XL.keeps (by rfl) (by rfl) (by rfl) (fun s e => recFacts_of (Bool.and_eq_true_iff.mp e).2) ?hwr said Mine.okOpen ?hb ?hw ?hc
  case hw => w_witness2
  case hwr => rfl
  case hb => exact ⟨rfl, rfl, rfl, rfl, rfl, by decide +kernel⟩
  case hc => exact Mine.walk2 _ _ (by rfl)
