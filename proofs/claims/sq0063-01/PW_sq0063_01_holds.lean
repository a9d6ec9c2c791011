import PyProof.Rows.All
import Wide.All
import OpenK.AllK
import Wide.FinOn
import Lean
import PySem.Challenge.RW_sq0063_01
open PySem PySem.W PyProof.Rows PySem.Calls
set_option Elab.async false
set_option linter.all false
set_option maxRecDepth 100000
set_option maxHeartbeats 0
set_option genSizeOf false
set_option bootstrap.genMatcherCode false
set_option tactic.hygienic false
set_option genCtorIdx false
set_option genInjectivity false
namespace Mine
theorem ap {α:Type} {a:α} {P:Prop} (e:(none:Option α)=some a):P:=nomatch e
theorem aG {α:Type} {a b:α} (e:some a=some b):a=b:=Option.some.inj e
theorem bG {P:Prop} (e:false=true):P:=nomatch e
theorem ag {a b:Bool} (e:(a && b)=true):a=true:=(Bool.and_eq_true_iff.mp e).1
theorem au {a b:Bool} (e:(a && b)=true):b=true:=(Bool.and_eq_true_iff.mp e).2
theorem iw {b:Bool} (e:(!b)=true):b=false:=by cases b with | true=>exact bG e | false=>rfl
theorem cS {α:Type} {b:Bool} {x:Option α} {y:α} (e:(if b=true then x else none)=some y):b=true/\x=some y:=by
 cases b with
 | true=>exact ⟨rfl,e⟩
 | false=>exact ap e
theorem az {α β:Type} {x:Option α} {f:α->Option β} {y:β} (e:x.bind f=some y):∃a,x=some a/\f a=some y:=by
 cases x with
 | none=>exact ap e
 | some a=>exact ⟨a,rfl,e⟩
theorem gR {α β:Type} {x:Option α} {f:α->β} {y:β} (e:x.map f=some y):∃a,x=some a/\f a=y:=by
 cases x with
 | none=>exact ap e
 | some a=>exact ⟨a,rfl,aG e⟩
theorem aD {α:Type} [BEq α] [LawfulBEq α] {a b:α} (e:(a == b)=true):a=b:=eq_of_beq e
@[elab_as_elim] theorem aa {α:Sort _} {a b:α} {P:α->Prop} (e:a=b) (h:P b):P a:=e▸h
section
set_option backward.match.sparseCases false
theorem bc {p:Prop} (h:¬p->False):p:=Classical.byContradiction h
noncomputable abbrev pr:Program:=PySem.Challenge.pw_sq0063_01
noncomputable def L3 (i:Nat):Stmt:=(pr.main.body.drop i).headD (.Pass default)
noncomputable def gB:Stmt->Arguments×List Stmt×Scope
 | .FunctionDef _ args body _ _ _ scope _ _ _=>(args,body,scope)
 | _=>(default,[],default)
noncomputable def cI (i:Nat):Stmt:=L3 i
noncomputable def jS (i j:Nat):Stmt:=match L3 i with
 | .ClassDef _ _ _ body _ _ _ _ _ _ _=>(body.drop j).headD (.Pass default)
 | _=>.Pass default
noncomputable abbrev bQ (st:Stmt) (name qual:String) (dV pm:Value) (cd:Addr):Obj :=
 ⟨.type "function",none,.func (fnOf (Str.ofString name) (Str.ofString qual) (gB st).1 (gB st).2.1 (gB st).2.2 dV .none .none pm none (.ref cd) .none),#[]⟩
noncomputable abbrev tO (a:Addr) (name:String) (ns:Addr) (sl:Array (Option Value)):Obj :=
 ⟨.type "type",none,.cls { name:=Str.ofString name,bases:=[.type "object"],mro:=[.ref a,.type "object"],ns:=ns,qualname:=Str.ofString name },sl⟩
noncomputable abbrev dE (P:Params) (n:String) (tk:Nat) (v:Value):DictEntry:=⟨PyData.keyHash P (Str.ofString n),.str (Str.ofString n) tk,v⟩
noncomputable def o3 (P:Params):Obj:=⟨.type "dict",none,.dict (dE P "__name__" 165 (.str (Str.ofString "law_sq0063_01") 1430)::dE P "__doc__" 166 (.none)::dE P "__package__" 167 (.none)::dE P "__loader__" 168 (.builtin "__main__.__loader__#opaque")::dE P "__spec__" 169 (.none)::dE P "__annotations__" 170 (.ref 6)::dE P "__builtins__" 171 (.ref 4)::dE P "__file__" 173 (.str (Str.ofString "/claim/cut.py") 172)::dE P "__cached__" 174 (.none)::dE P "_wall" 193 (.ref 21)::dE P "PageError" 223 (.ref 39)::dE P "BadArgument" 239 (.ref 52)::dE P "Overflow" 255 (.ref 64)::dE P "BadFont" 271 (.ref 76)::dE P "TooDeep" 287 (.ref 88)::dE P "UNITY" 291 (.int 65536 290)::dE P "MAX_DIMEN" 297 (.int 1073741823 296)::dE P "MAX_NUMBER" 303 (.int 2147483647 302)::dE P "INF_BAD" 305 (.int 10000 304)::dE P "NORMAL" 310 (.int 0 306)::dE P "FIL" 311 (.int 1 307)::dE P "FILL" 312 (.int 2 308)::dE P "FILLL" 313 (.int 3 309)::dE P "is_whole" 322 (.ref 101)::dE P "check_whole" 329 (.ref 108)::dE P "check_number" 336 (.ref 115)::dE P "check_dimen" 343 (.ref 122)::dE P "rounded" 351 (.ref 129)::dE P "reading" 359 (.ref 136)::dE P "decimal_text" 372 (.ref 143)::dE P "times" 381 (.ref 150)::dE P "times_scaled" 382 (.ref 150)::dE P "over" 392 (.ref 157)::dE P "over_scaled" 393 (.ref 157)::dE P "badness" 402 (.ref 164)::dE P "order_text" 409 (.ref 171)::dE P "part_text" 418 (.ref 178)::dE P "Glue" 520 (.ref 246)::dE P "top_order" 528 (.ref 257)::dE P "Totals" 595 (.ref 309)::dE P "CHAR" 606 (.int 0 598)::dE P "LIGATURE" 607 (.int 1 599)::dE P "HBOX" 608 (.int 2 600)::dE P "VBOX" 609 (.int 3 601)::dE P "RULE" 610 (.int 4 602)::dE P "KERN" 611 (.int 5 603)::dE P "GLUE" 612 (.int 6 604)::dE P "PENALTY" 613 (.int 7 605)::dE P "DISC" 621 (.int 8 614)::dE P "MARK" 622 (.int 9 615)::dE P "INSERT" 623 (.int 10 616)::dE P "ADJUST" 624 (.int 11 617)::dE P "MATH" 625 (.int 12 618)::dE P "SPECIAL" 626 (.int 13 619)::dE P "UNSET" 627 (.int 14 620)::dE P "NATURAL" 631 (.int 0 628)::dE P "STRETCHED" 632 (.int 1 629)::dE P "SHRUNK" 633 (.int 2 630)::dE P "FONT_KERN" 638 (.int 0 634)::dE P "EXPLICIT" 639 (.int 1 635)::dE P "ACCENT_KERN" 640 (.int 2 636)::dE P "MU_KERN" 641 (.int 3 637)::dE P "PLAIN" 649 (.int 0 642)::dE P "ALEADERS" 650 (.int 1 643)::dE P "CLEADERS" 651 (.int 2 644)::dE P "XLEADERS" 652 (.int 3 645)::dE P "MU_SKIP" 653 (.int 4 646)::dE P "NONSCRIPT" 654 (.int 5 647)::dE P "NAMED" 655 (.int 100 648)::dE P "FOR_DEVICE" 660 (.int 0 656)::dE P "WRITING" 661 (.int 1 657)::dE P "OPENING" 662 (.int 2 658)::dE P "CLOSING" 663 (.int 3 659)::dE P "DEEPEST" 665 (.int 60 664)::dE P "check_code" 672 (.ref 344)::dE P "check_short" 680 (.ref 351)::dE P "Char" 712 (.ref 368)::dE P "Box" 753 (.ref 389)::dE P "Rule" 788 (.ref 410)::dE P "Kern" 820 (.ref 431)::dE P "Skip" 854 (.ref 453)::dE P "Penalty" 884 (.ref 474)::dE P "Disc" 918 (.ref 495)::dE P "MathEdge" 950 (.ref 516)::dE P "check_depth" 957 (.ref 527)::dE P "described_special" 963 (.ref 532)::dE P "described_rest" 974 (.ref 539)::dE P "described" 981 (.ref 545)::dE P "described_list" 988 (.ref 551)::dE P "width_of" 994 (.ref 556)::dE P "height_of" 1000 (.ref 561)::dE P "depth_of" 1006 (.ref 566)::dE P "line_height" 1013 (.ref 573)::dE P "line_depth" 1020 (.ref 580)::dE P "EXACTLY" 1025 (.int 0 1023)::dE P "SPREAD" 1026 (.int 1 1024)::dE P "FINE" 1031 (.int 0 1027)::dE P "LOOSE" 1032 (.int 1 1028)::dE P "TIGHT" 1033 (.int 2 1029)::dE P "OVERFULL" 1034 (.int 3 1030)::dE P "natural_line" 1045 (.ref 595)::dE P "check_column" 1053 (.ref 602)::dE P "quotient" 1061 (.ref 609)::dE P "set_glue" 1072 (.ref 616)::dE P "flex" 1080 (.ref 623)::dE P "set_part" 1088 (.ref 630)::dE P "part_size" 1096 (.ref 637)::dE P "places" 1107 (.ref 644)::dE P "moved" 1117 (.ref 651)::dE P "goal_size" 1126 (.ref 658)::dE P "set_box" 1136 (.ref 665)::dE P "hpack" 1154 (.ref 673)::dE P "EDGE" 1158 (.int 256 1157)::dE P "MOST_FONTS" 1160 (.int 255 1159)::dE P "MOST_PARAMS" 1162 (.int 64 1161)::dE P "MOST_SIZE" 1168 (.int 134217727 1167)::dE P "PLAIN_SORT" 1173 (.int 0 1169)::dE P "PROGRAM_SORT" 1174 (.int 1 1170)::dE P "LARGER_SORT" 1175 (.int 2 1171)::dE P "PIECES_SORT" 1176 (.int 3 1172)::dE P "STOP_SKIP" 1180 (.int 128 1177)::dE P "KERN_OP" 1181 (.int 128 1178)::dE P "LEAD" 1182 (.int 255 1179)::dE P "NO_CHARACTER" 1189 (.ref 682)::dE P "LETTERS" 1191 (.str (Str.ofString "abcdefghjklmnopqrstuvwxyz") 1190)::dE P "SMALL_PARAMS" 1199 (.ref 683)::dE P "is_size" 1206 (.ref 690)::dE P "check_sizes" 1214 (.ref 697)::dE P "check_pieces" 1224 (.ref 704)::dE P "check_chars" 1236 (.ref 711)::dE P "check_larger" 1246 (.ref 718)::dE P "check_program" 1264 (.ref 725)::dE P "left_start" 1275 (.ref 732)::dE P "Font" 1406 (.ref 822)::dE P "font_name" 1415 (.ref 833)::dE P "font_of_rows" 1429 (.ref 843)::dE P "_law_heap" 1440 (.ref 850)::dE P "_law_take" 1449 (.ref 857)::dE P "_law_size" 1457 (.ref 864)::dE P "_law_part" 1468 (.ref 871)::dE P "_law_mixed" 1478 (.ref 878)::dE P "_law_told" 1487 (.ref 885)::dE P "_law_run" 1497 (.ref 892)::dE P "_law_flat" 1506 (.ref 899)::dE P "law" 1512 (.ref 904)::[]).toArray 145,#[]⟩
noncomputable def J6 (P:Params):Obj:=⟨.type "code",none,.fields #[.str (Str.ofString "is_whole") 314,.str (Str.ofString "is_whole") 315,.str (Str.ofString "/claim/cut.py") 316,.int 23 0,.int 3 0,.int 0 0,.int 0 0,.int 3 0,.ref 95,.bool true,.int 181 0,.ref 96,.none,.ref 97,.ref 98,.ref 99,.int 320 0,.int 23 0,.str (Str.ofString "/claim/cut.py") 321],#[]⟩
noncomputable def KC (P:Params):Obj:=bQ (cI 13) "is_whole" "is_whole" (.none) (.str (Str.ofString "gluepage.scaled") 288) 100
noncomputable def Lg (P:Params):Obj:=⟨.type "code",none,.fields #[.str (Str.ofString "check_whole") 323,.str (Str.ofString "check_whole") 324,.str (Str.ofString "/claim/cut.py") 325,.int 25 0,.int 1 0,.int 0 0,.int 0 0,.int 3 0,.ref 102,.bool true,.int 181 0,.ref 103,.none,.ref 104,.ref 105,.ref 106,.int 327 0,.int 25 0,.str (Str.ofString "/claim/cut.py") 328],#[]⟩
noncomputable def LQ (P:Params):Obj:=bQ (cI 14) "check_whole" "check_whole" (.none) (.str (Str.ofString "gluepage.scaled") 288) 107
noncomputable def Jw (P:Params):Obj:=⟨.type "code",none,.fields #[.str (Str.ofString "check_number") 330,.str (Str.ofString "check_number") 331,.str (Str.ofString "/claim/cut.py") 332,.int 29 0,.int 1 0,.int 0 0,.int 0 0,.int 3 0,.ref 109,.bool true,.int 181 0,.ref 110,.none,.ref 111,.ref 112,.ref 113,.int 334 0,.int 29 0,.str (Str.ofString "/claim/cut.py") 335],#[]⟩
noncomputable def Lx (P:Params):Obj:=bQ (cI 15) "check_number" "check_number" (.none) (.str (Str.ofString "gluepage.scaled") 288) 114
noncomputable def I7 (P:Params):Obj:=⟨.type "code",none,.fields #[.str (Str.ofString "check_dimen") 337,.str (Str.ofString "check_dimen") 338,.str (Str.ofString "/claim/cut.py") 339,.int 33 0,.int 1 0,.int 0 0,.int 0 0,.int 3 0,.ref 116,.bool true,.int 181 0,.ref 117,.none,.ref 118,.ref 119,.ref 120,.int 341 0,.int 33 0,.str (Str.ofString "/claim/cut.py") 342],#[]⟩
noncomputable def LB (P:Params):Obj:=bQ (cI 16) "check_dimen" "check_dimen" (.none) (.str (Str.ofString "gluepage.scaled") 288) 121
noncomputable def Lo (P:Params):Obj:=⟨.type "code",none,.fields #[.str (Str.ofString "rounded") 344,.str (Str.ofString "rounded") 345,.str (Str.ofString "/claim/cut.py") 346,.int 37 0,.int 2 0,.int 0 0,.int 0 0,.int 3 0,.ref 123,.bool true,.int 181 0,.ref 124,.none,.ref 125,.ref 126,.ref 127,.int 349 0,.int 37 0,.str (Str.ofString "/claim/cut.py") 350],#[]⟩
noncomputable def Ko (P:Params):Obj:=bQ (cI 17) "rounded" "rounded" (.none) (.str (Str.ofString "gluepage.scaled") 288) 128
noncomputable def HZ (P:Params):Obj:=⟨.type "code",none,.fields #[.str (Str.ofString "badness") 394,.str (Str.ofString "badness") 395,.str (Str.ofString "/claim/cut.py") 396,.int 69 0,.int 2 0,.int 0 0,.int 0 0,.int 3 0,.ref 158,.bool true,.int 181 0,.ref 159,.none,.ref 160,.ref 161,.ref 162,.int 400 0,.int 69 0,.str (Str.ofString "/claim/cut.py") 401],#[]⟩
noncomputable def Ke (P:Params):Obj:=bQ (cI 24) "badness" "badness" (.none) (.str (Str.ofString "gluepage.scaled") 288) 163
noncomputable def Jx (P:Params):Obj:=⟨.type "tuple",none,.seq #[.int 0 431,.int 0 432,.int 0 433,.int 0 434,.int 0 435] 0,#[]⟩
noncomputable def Kb (P:Params):Obj:=⟨.type "code",none,.fields #[.str (Str.ofString "__init__") 436,.str (Str.ofString "Glue.__init__") 437,.str (Str.ofString "/claim/cut.py") 438,.int 91 0,.int 6 0,.int 0 0,.int 0 0,.int 3 0,.ref 187,.bool true,.int 181 0,.ref 188,.none,.ref 189,.ref 190,.ref 191,.int 445 0,.int 91 0,.str (Str.ofString "/claim/cut.py") 446],#[]⟩
noncomputable def LJ (P:Params):Obj:=bQ (jS 27 0) "__init__" "Glue.__init__" (.ref 186) (.str (Str.ofString "gluepage.scaled") 288) 192
noncomputable def J8 (P:Params):Obj:=⟨.type "code",none,.fields #[.str (Str.ofString "parts") 448,.str (Str.ofString "Glue.parts") 449,.str (Str.ofString "/claim/cut.py") 450,.int 100 0,.int 1 0,.int 0 0,.int 0 0,.int 3 0,.ref 194,.bool true,.int 181 0,.ref 195,.none,.ref 196,.ref 197,.ref 198,.int 452 0,.int 100 0,.str (Str.ofString "/claim/cut.py") 453],#[]⟩
noncomputable def KD (P:Params):Obj:=bQ (jS 27 1) "parts" "Glue.parts" (.none) (.str (Str.ofString "gluepage.scaled") 288) 199
noncomputable def LH (P:Params):Obj:=⟨.type "dict",none,.dict (dE P "__module__" 426 (.str (Str.ofString "gluepage.scaled") 288)::dE P "__firstlineno__" 430 (.int 89 429)::dE P "__init__" 447 (.ref 193)::dE P "parts" 454 (.ref 200)::dE P "same" 462 (.ref 207)::dE P "added" 470 (.ref 214)::dE P "times" 480 (.ref 221)::dE P "over" 490 (.ref 228)::dE P "negated" 497 (.ref 235)::dE P "text" 507 (.ref 243)::dE P "__static_attributes__" 513 (.ref 244)::dE P "__dict__" 515 (.ref 247)::dE P "__weakref__" 517 (.ref 248)::dE P "__doc__" 518 (.none)::[]).toArray 4,#[]⟩
noncomputable def KE (P:Params):Obj:=tO 246 "Glue" 245 #[none,none,some (.str (Str.ofString "Glue") 419),some (.str (Str.ofString "Glue") 427),some (.builtin "object.__new__"),some (.bool true)]
noncomputable def G3 (P:Params):Obj:=⟨.type "code",none,.fields #[.str (Str.ofString "top_order") 521,.str (Str.ofString "top_order") 522,.str (Str.ofString "/claim/cut.py") 523,.int 127 0,.int 1 0,.int 0 0,.int 0 0,.int 3 0,.ref 251,.bool true,.int 181 0,.ref 252,.none,.ref 253,.ref 254,.ref 255,.int 526 0,.int 127 0,.str (Str.ofString "/claim/cut.py") 527],#[]⟩
noncomputable def KR (P:Params):Obj:=bQ (cI 28) "top_order" "top_order" (.none) (.str (Str.ofString "gluepage.scaled") 288) 256
noncomputable def Ip (P:Params):Obj:=⟨.type "code",none,.fields #[.str (Str.ofString "__init__") 541,.str (Str.ofString "Totals.__init__") 542,.str (Str.ofString "/claim/cut.py") 543,.int 134 0,.int 1 0,.int 0 0,.int 0 0,.int 3 0,.ref 265,.bool true,.int 181 0,.ref 266,.none,.ref 267,.ref 268,.ref 269,.int 545 0,.int 134 0,.str (Str.ofString "/claim/cut.py") 546],#[]⟩
noncomputable def Ja (P:Params):Obj:=bQ (jS 29 0) "__init__" "Totals.__init__" (.none) (.str (Str.ofString "gluepage.scaled") 288) 270
noncomputable def Le (P:Params):Obj:=⟨.type "code",none,.fields #[.str (Str.ofString "add") 548,.str (Str.ofString "Totals.add") 549,.str (Str.ofString "/claim/cut.py") 550,.int 139 0,.int 2 0,.int 0 0,.int 0 0,.int 3 0,.ref 272,.bool true,.int 181 0,.ref 273,.none,.ref 274,.ref 275,.ref 276,.int 553 0,.int 139 0,.str (Str.ofString "/claim/cut.py") 554],#[]⟩
noncomputable def JL (P:Params):Obj:=bQ (jS 29 1) "add" "Totals.add" (.none) (.str (Str.ofString "gluepage.scaled") 288) 277
noncomputable def Kc (P:Params):Obj:=⟨.type "code",none,.fields #[.str (Str.ofString "widen") 556,.str (Str.ofString "Totals.widen") 557,.str (Str.ofString "/claim/cut.py") 558,.int 144 0,.int 2 0,.int 0 0,.int 0 0,.int 3 0,.ref 279,.bool true,.int 181 0,.ref 280,.none,.ref 281,.ref 282,.ref 283,.int 561 0,.int 144 0,.str (Str.ofString "/claim/cut.py") 562],#[]⟩
noncomputable def H7 (P:Params):Obj:=bQ (jS 29 2) "widen" "Totals.widen" (.none) (.str (Str.ofString "gluepage.scaled") 288) 284
noncomputable def Iy (P:Params):Obj:=⟨.type "code",none,.fields #[.str (Str.ofString "stretch_top") 564,.str (Str.ofString "Totals.stretch_top") 565,.str (Str.ofString "/claim/cut.py") 566,.int 147 0,.int 1 0,.int 0 0,.int 0 0,.int 3 0,.ref 286,.bool true,.int 181 0,.ref 287,.none,.ref 288,.ref 289,.ref 290,.int 568 0,.int 147 0,.str (Str.ofString "/claim/cut.py") 569],#[]⟩
noncomputable def HI (P:Params):Obj:=bQ (jS 29 3) "stretch_top" "Totals.stretch_top" (.none) (.str (Str.ofString "gluepage.scaled") 288) 291
noncomputable def IH (P:Params):Obj:=⟨.type "code",none,.fields #[.str (Str.ofString "shrink_top") 571,.str (Str.ofString "Totals.shrink_top") 572,.str (Str.ofString "/claim/cut.py") 573,.int 150 0,.int 1 0,.int 0 0,.int 0 0,.int 3 0,.ref 293,.bool true,.int 181 0,.ref 294,.none,.ref 295,.ref 296,.ref 297,.int 575 0,.int 150 0,.str (Str.ofString "/claim/cut.py") 576],#[]⟩
noncomputable def Hy (P:Params):Obj:=bQ (jS 29 4) "shrink_top" "Totals.shrink_top" (.none) (.str (Str.ofString "gluepage.scaled") 288) 298
noncomputable def I0 (P:Params):Obj:=⟨.type "dict",none,.dict (dE P "__module__" 536 (.str (Str.ofString "gluepage.scaled") 288)::dE P "__firstlineno__" 540 (.int 132 539)::dE P "__init__" 547 (.ref 271)::dE P "add" 555 (.ref 278)::dE P "widen" 563 (.ref 285)::dE P "stretch_top" 570 (.ref 292)::dE P "shrink_top" 577 (.ref 299)::dE P "copy" 584 (.ref 306)::dE P "__static_attributes__" 588 (.ref 307)::dE P "__dict__" 590 (.ref 310)::dE P "__weakref__" 592 (.ref 311)::dE P "__doc__" 593 (.none)::[]).toArray 4,#[]⟩
noncomputable def Jv (P:Params):Obj:=tO 309 "Totals" 308 #[none,none,some (.str (Str.ofString "Totals") 529),some (.str (Str.ofString "Totals") 537),some (.builtin "object.__new__"),some (.bool true)]
noncomputable def IQ (P:Params):Obj:=⟨.type "code",none,.fields #[.str (Str.ofString "check_code") 666,.str (Str.ofString "check_code") 667,.str (Str.ofString "/claim/cut.py") 668,.int 163 0,.int 1 0,.int 0 0,.int 0 0,.int 3 0,.ref 338,.bool true,.int 181 0,.ref 339,.none,.ref 340,.ref 341,.ref 342,.int 670 0,.int 163 0,.str (Str.ofString "/claim/cut.py") 671],#[]⟩
noncomputable def JQ (P:Params):Obj:=bQ (cI 38) "check_code" "check_code" (.none) (.str (Str.ofString "gluepage.nodes") 596) 343
noncomputable def Kp (P:Params):Obj:=⟨.type "code",none,.fields #[.str (Str.ofString "check_short") 673,.str (Str.ofString "check_short") 674,.str (Str.ofString "/claim/cut.py") 675,.int 167 0,.int 1 0,.int 0 0,.int 0 0,.int 3 0,.ref 345,.bool true,.int 181 0,.ref 346,.none,.ref 347,.ref 348,.ref 349,.int 678 0,.int 167 0,.str (Str.ofString "/claim/cut.py") 679],#[]⟩
noncomputable def Kh (P:Params):Obj:=bQ (cI 39) "check_short" "check_short" (.none) (.str (Str.ofString "gluepage.nodes") 596) 350
noncomputable def IJ (P:Params):Obj:=⟨.type "code",none,.fields #[.str (Str.ofString "__init__") 694,.str (Str.ofString "Char.__init__") 695,.str (Str.ofString "/claim/cut.py") 696,.int 175 0,.int 3 0,.int 0 0,.int 0 0,.int 3 0,.ref 359,.bool true,.int 181 0,.ref 360,.none,.ref 361,.ref 362,.ref 363,.int 700 0,.int 175 0,.str (Str.ofString "/claim/cut.py") 701],#[]⟩
noncomputable def J5 (P:Params):Obj:=bQ (jS 40 1) "__init__" "Char.__init__" (.none) (.str (Str.ofString "gluepage.nodes") 596) 364
noncomputable def HU (P:Params):Obj:=⟨.type "dict",none,.dict (dE P "__module__" 688 (.str (Str.ofString "gluepage.nodes") 596)::dE P "__firstlineno__" 692 (.int 172 691)::dE P "kind" 693 (.int 0 598)::dE P "__init__" 702 (.ref 365)::dE P "__static_attributes__" 705 (.ref 366)::dE P "__dict__" 707 (.ref 369)::dE P "__weakref__" 709 (.ref 370)::dE P "__doc__" 710 (.none)::[]).toArray 4,#[]⟩
noncomputable def Ir (P:Params):Obj:=tO 368 "Char" 367 #[none,none,some (.str (Str.ofString "Char") 681),some (.str (Str.ofString "Char") 689),some (.builtin "object.__new__"),some (.bool true)]
noncomputable def G8 (P:Params):Obj:=⟨.type "code",none,.fields #[.str (Str.ofString "__init__") 725,.str (Str.ofString "Box.__init__") 726,.str (Str.ofString "/claim/cut.py") 727,.int 180 0,.int 6 0,.int 0 0,.int 0 0,.int 3 0,.ref 380,.bool true,.int 181 0,.ref 381,.none,.ref 382,.ref 383,.ref 384,.int 734 0,.int 180 0,.str (Str.ofString "/claim/cut.py") 735],#[]⟩
noncomputable def JR (P:Params):Obj:=bQ (jS 41 0) "__init__" "Box.__init__" (.none) (.str (Str.ofString "gluepage.nodes") 596) 385
noncomputable def Kd (P:Params):Obj:=⟨.type "dict",none,.dict (dE P "__module__" 720 (.str (Str.ofString "gluepage.nodes") 596)::dE P "__firstlineno__" 724 (.int 178 723)::dE P "__init__" 736 (.ref 386)::dE P "__static_attributes__" 746 (.ref 387)::dE P "__dict__" 748 (.ref 390)::dE P "__weakref__" 750 (.ref 391)::dE P "__doc__" 751 (.none)::[]).toArray 4,#[]⟩
noncomputable def I2 (P:Params):Obj:=tO 389 "Box" 388 #[none,none,some (.str (Str.ofString "Box") 713),some (.str (Str.ofString "Box") 721),some (.builtin "object.__new__"),some (.bool true)]
noncomputable def IF (P:Params):Obj:=⟨.type "code",none,.fields #[.str (Str.ofString "__init__") 767,.str (Str.ofString "Rule.__init__") 768,.str (Str.ofString "/claim/cut.py") 769,.int 195 0,.int 4 0,.int 0 0,.int 0 0,.int 3 0,.ref 401,.bool true,.int 181 0,.ref 402,.none,.ref 403,.ref 404,.ref 405,.int 775 0,.int 195 0,.str (Str.ofString "/claim/cut.py") 776],#[]⟩
noncomputable def KU (P:Params):Obj:=bQ (jS 42 1) "__init__" "Rule.__init__" (.none) (.str (Str.ofString "gluepage.nodes") 596) 406
noncomputable def Hz (P:Params):Obj:=⟨.type "dict",none,.dict (dE P "__module__" 761 (.str (Str.ofString "gluepage.nodes") 596)::dE P "__firstlineno__" 765 (.int 192 764)::dE P "kind" 766 (.int 4 602)::dE P "__init__" 777 (.ref 407)::dE P "__static_attributes__" 781 (.ref 408)::dE P "__dict__" 783 (.ref 411)::dE P "__weakref__" 785 (.ref 412)::dE P "__doc__" 786 (.none)::[]).toArray 4,#[]⟩
noncomputable def HY (P:Params):Obj:=tO 410 "Rule" 409 #[none,none,some (.str (Str.ofString "Rule") 754),some (.str (Str.ofString "Rule") 762),some (.builtin "object.__new__"),some (.bool true)]
noncomputable def Ks (P:Params):Obj:=⟨.type "code",none,.fields #[.str (Str.ofString "__init__") 802,.str (Str.ofString "Kern.__init__") 803,.str (Str.ofString "/claim/cut.py") 804,.int 205 0,.int 3 0,.int 0 0,.int 0 0,.int 3 0,.ref 422,.bool true,.int 181 0,.ref 423,.none,.ref 424,.ref 425,.ref 426,.int 808 0,.int 205 0,.str (Str.ofString "/claim/cut.py") 809],#[]⟩
noncomputable def Kr (P:Params):Obj:=bQ (jS 43 1) "__init__" "Kern.__init__" (.none) (.str (Str.ofString "gluepage.nodes") 596) 427
noncomputable def JK (P:Params):Obj:=⟨.type "dict",none,.dict (dE P "__module__" 796 (.str (Str.ofString "gluepage.nodes") 596)::dE P "__firstlineno__" 800 (.int 202 799)::dE P "kind" 801 (.int 5 603)::dE P "__init__" 810 (.ref 428)::dE P "__static_attributes__" 813 (.ref 429)::dE P "__dict__" 815 (.ref 432)::dE P "__weakref__" 817 (.ref 433)::dE P "__doc__" 818 (.none)::[]).toArray 4,#[]⟩
noncomputable def LC (P:Params):Obj:=tO 431 "Kern" 430 #[none,none,some (.str (Str.ofString "Kern") 789),some (.str (Str.ofString "Kern") 797),some (.builtin "object.__new__"),some (.bool true)]
noncomputable def LG (P:Params):Obj:=⟨.type "tuple",none,.seq #[.none] 0,#[]⟩
noncomputable def Jq (P:Params):Obj:=⟨.type "code",none,.fields #[.str (Str.ofString "__init__") 834,.str (Str.ofString "Skip.__init__") 835,.str (Str.ofString "/claim/cut.py") 836,.int 213 0,.int 4 0,.int 0 0,.int 0 0,.int 3 0,.ref 444,.bool true,.int 181 0,.ref 445,.none,.ref 446,.ref 447,.ref 448,.int 841 0,.int 213 0,.str (Str.ofString "/claim/cut.py") 842],#[]⟩
noncomputable def LN (P:Params):Obj:=bQ (jS 44 1) "__init__" "Skip.__init__" (.ref 443) (.str (Str.ofString "gluepage.nodes") 596) 449
noncomputable def JV (P:Params):Obj:=⟨.type "dict",none,.dict (dE P "__module__" 828 (.str (Str.ofString "gluepage.nodes") 596)::dE P "__firstlineno__" 832 (.int 210 831)::dE P "kind" 833 (.int 6 604)::dE P "__init__" 843 (.ref 450)::dE P "__static_attributes__" 847 (.ref 451)::dE P "__dict__" 849 (.ref 454)::dE P "__weakref__" 851 (.ref 455)::dE P "__doc__" 852 (.none)::[]).toArray 4,#[]⟩
noncomputable def Ig (P:Params):Obj:=tO 453 "Skip" 452 #[none,none,some (.str (Str.ofString "Skip") 821),some (.str (Str.ofString "Skip") 829),some (.builtin "object.__new__"),some (.bool true)]
noncomputable def JU (P:Params):Obj:=⟨.type "code",none,.fields #[.str (Str.ofString "__init__") 868,.str (Str.ofString "Penalty.__init__") 869,.str (Str.ofString "/claim/cut.py") 870,.int 226 0,.int 2 0,.int 0 0,.int 0 0,.int 3 0,.ref 465,.bool true,.int 181 0,.ref 466,.none,.ref 467,.ref 468,.ref 469,.int 873 0,.int 226 0,.str (Str.ofString "/claim/cut.py") 874],#[]⟩
noncomputable def LM (P:Params):Obj:=bQ (jS 45 1) "__init__" "Penalty.__init__" (.none) (.str (Str.ofString "gluepage.nodes") 596) 470
noncomputable def HA (P:Params):Obj:=⟨.type "dict",none,.dict (dE P "__module__" 862 (.str (Str.ofString "gluepage.nodes") 596)::dE P "__firstlineno__" 866 (.int 223 865)::dE P "kind" 867 (.int 7 605)::dE P "__init__" 875 (.ref 471)::dE P "__static_attributes__" 877 (.ref 472)::dE P "__dict__" 879 (.ref 475)::dE P "__weakref__" 881 (.ref 476)::dE P "__doc__" 882 (.none)::[]).toArray 4,#[]⟩
noncomputable def Lj (P:Params):Obj:=tO 474 "Penalty" 473 #[none,none,some (.str (Str.ofString "Penalty") 855),some (.str (Str.ofString "Penalty") 863),some (.builtin "object.__new__"),some (.bool true)]
noncomputable def Lh (P:Params):Obj:=⟨.type "code",none,.fields #[.str (Str.ofString "__init__") 898,.str (Str.ofString "Disc.__init__") 899,.str (Str.ofString "/claim/cut.py") 900,.int 231 0,.int 4 0,.int 0 0,.int 0 0,.int 3 0,.ref 486,.bool true,.int 181 0,.ref 487,.none,.ref 488,.ref 489,.ref 490,.int 905 0,.int 231 0,.str (Str.ofString "/claim/cut.py") 906],#[]⟩
noncomputable def KV (P:Params):Obj:=bQ (jS 46 1) "__init__" "Disc.__init__" (.none) (.str (Str.ofString "gluepage.nodes") 596) 491
noncomputable def Iw (P:Params):Obj:=⟨.type "dict",none,.dict (dE P "__module__" 892 (.str (Str.ofString "gluepage.nodes") 596)::dE P "__firstlineno__" 896 (.int 228 895)::dE P "kind" 897 (.int 8 614)::dE P "__init__" 907 (.ref 492)::dE P "__static_attributes__" 911 (.ref 493)::dE P "__dict__" 913 (.ref 496)::dE P "__weakref__" 915 (.ref 497)::dE P "__doc__" 916 (.none)::[]).toArray 4,#[]⟩
noncomputable def HR (P:Params):Obj:=tO 495 "Disc" 494 #[none,none,some (.str (Str.ofString "Disc") 885),some (.str (Str.ofString "Disc") 893),some (.builtin "object.__new__"),some (.bool true)]
noncomputable def IY (P:Params):Obj:=⟨.type "code",none,.fields #[.str (Str.ofString "__init__") 932,.str (Str.ofString "MathEdge.__init__") 933,.str (Str.ofString "/claim/cut.py") 934,.int 238 0,.int 3 0,.int 0 0,.int 0 0,.int 3 0,.ref 507,.bool true,.int 181 0,.ref 508,.none,.ref 509,.ref 510,.ref 511,.int 938 0,.int 238 0,.str (Str.ofString "/claim/cut.py") 939],#[]⟩
noncomputable def Hg (P:Params):Obj:=bQ (jS 47 1) "__init__" "MathEdge.__init__" (.none) (.str (Str.ofString "gluepage.nodes") 596) 512
noncomputable def La (P:Params):Obj:=⟨.type "dict",none,.dict (dE P "__module__" 926 (.str (Str.ofString "gluepage.nodes") 596)::dE P "__firstlineno__" 930 (.int 235 929)::dE P "kind" 931 (.int 12 618)::dE P "__init__" 940 (.ref 513)::dE P "__static_attributes__" 943 (.ref 514)::dE P "__dict__" 945 (.ref 517)::dE P "__weakref__" 947 (.ref 518)::dE P "__doc__" 948 (.none)::[]).toArray 4,#[]⟩
noncomputable def Ld (P:Params):Obj:=tO 516 "MathEdge" 515 #[none,none,some (.str (Str.ofString "MathEdge") 919),some (.str (Str.ofString "MathEdge") 927),some (.builtin "object.__new__"),some (.bool true)]
noncomputable def GX (P:Params):Obj:=⟨.type "code",none,.fields #[.str (Str.ofString "check_depth") 951,.str (Str.ofString "check_depth") 952,.str (Str.ofString "/claim/cut.py") 953,.int 241 0,.int 1 0,.int 0 0,.int 0 0,.int 3 0,.ref 521,.bool true,.int 181 0,.ref 522,.none,.ref 523,.ref 524,.ref 525,.int 955 0,.int 241 0,.str (Str.ofString "/claim/cut.py") 956],#[]⟩
noncomputable def HJ (P:Params):Obj:=bQ (cI 48) "check_depth" "check_depth" (.none) (.str (Str.ofString "gluepage.nodes") 596) 526
noncomputable def Kw (P:Params):Obj:=⟨.type "code",none,.fields #[.str (Str.ofString "described_rest") 964,.str (Str.ofString "described_rest") 965,.str (Str.ofString "/claim/cut.py") 966,.int 250 0,.int 2 0,.int 0 0,.int 0 0,.int 3 0,.ref 533,.bool true,.int 181 0,.ref 534,.none,.ref 535,.ref 536,.ref 537,.int 972 0,.int 250 0,.str (Str.ofString "/claim/cut.py") 973],#[]⟩
noncomputable def KA (P:Params):Obj:=bQ (cI 50) "described_rest" "described_rest" (.none) (.str (Str.ofString "gluepage.nodes") 596) 538
noncomputable def KZ (P:Params):Obj:=⟨.type "tuple",none,.seq #[.int 0 975] 0,#[]⟩
noncomputable def Ik (P:Params):Obj:=⟨.type "code",none,.fields #[.str (Str.ofString "described") 976,.str (Str.ofString "described") 977,.str (Str.ofString "/claim/cut.py") 978,.int 265 0,.int 2 0,.int 0 0,.int 0 0,.int 3 0,.ref 541,.bool true,.int 181 0,.ref 542,.none,.none,.none,.ref 543,.int 979 0,.int 265 0,.str (Str.ofString "/claim/cut.py") 980],#[]⟩
noncomputable def Hq (P:Params):Obj:=bQ (cI 51) "described" "described" (.ref 540) (.str (Str.ofString "gluepage.nodes") 596) 544
noncomputable def HE (P:Params):Obj:=⟨.type "tuple",none,.seq #[.int 0 982] 0,#[]⟩
noncomputable def JH (P:Params):Obj:=⟨.type "code",none,.fields #[.str (Str.ofString "described_list") 983,.str (Str.ofString "described_list") 984,.str (Str.ofString "/claim/cut.py") 985,.int 288 0,.int 2 0,.int 0 0,.int 0 0,.int 3 0,.ref 547,.bool true,.int 181 0,.ref 548,.none,.none,.none,.ref 549,.int 986 0,.int 288 0,.str (Str.ofString "/claim/cut.py") 987],#[]⟩
noncomputable def IZ (P:Params):Obj:=bQ (cI 52) "described_list" "described_list" (.ref 546) (.str (Str.ofString "gluepage.nodes") 596) 550
noncomputable def LP (P:Params):Obj:=⟨.type "code",none,.fields #[.str (Str.ofString "width_of") 989,.str (Str.ofString "width_of") 990,.str (Str.ofString "/claim/cut.py") 991,.int 290 0,.int 1 0,.int 0 0,.int 0 0,.int 3 0,.ref 552,.bool true,.int 181 0,.ref 553,.none,.none,.none,.ref 554,.int 992 0,.int 290 0,.str (Str.ofString "/claim/cut.py") 993],#[]⟩
noncomputable def Ln (P:Params):Obj:=bQ (cI 53) "width_of" "width_of" (.none) (.str (Str.ofString "gluepage.nodes") 596) 555
noncomputable def KG (P:Params):Obj:=⟨.type "code",none,.fields #[.str (Str.ofString "height_of") 995,.str (Str.ofString "height_of") 996,.str (Str.ofString "/claim/cut.py") 997,.int 303 0,.int 1 0,.int 0 0,.int 0 0,.int 3 0,.ref 557,.bool true,.int 181 0,.ref 558,.none,.none,.none,.ref 559,.int 998 0,.int 303 0,.str (Str.ofString "/claim/cut.py") 999],#[]⟩
noncomputable def J2 (P:Params):Obj:=bQ (cI 54) "height_of" "height_of" (.none) (.str (Str.ofString "gluepage.nodes") 596) 560
noncomputable def Io (P:Params):Obj:=⟨.type "code",none,.fields #[.str (Str.ofString "depth_of") 1001,.str (Str.ofString "depth_of") 1002,.str (Str.ofString "/claim/cut.py") 1003,.int 316 0,.int 1 0,.int 0 0,.int 0 0,.int 3 0,.ref 562,.bool true,.int 181 0,.ref 563,.none,.none,.none,.ref 564,.int 1004 0,.int 316 0,.str (Str.ofString "/claim/cut.py") 1005],#[]⟩
noncomputable def IR (P:Params):Obj:=bQ (cI 55) "depth_of" "depth_of" (.none) (.str (Str.ofString "gluepage.nodes") 596) 565
noncomputable def K3 (P:Params):Obj:=⟨.type "code",none,.fields #[.str (Str.ofString "line_height") 1007,.str (Str.ofString "line_height") 1008,.str (Str.ofString "/claim/cut.py") 1009,.int 329 0,.int 1 0,.int 0 0,.int 0 0,.int 3 0,.ref 567,.bool true,.int 181 0,.ref 568,.none,.ref 569,.ref 570,.ref 571,.int 1011 0,.int 329 0,.str (Str.ofString "/claim/cut.py") 1012],#[]⟩
noncomputable def I3 (P:Params):Obj:=bQ (cI 56) "line_height" "line_height" (.none) (.str (Str.ofString "gluepage.nodes") 596) 572
noncomputable def I8 (P:Params):Obj:=⟨.type "code",none,.fields #[.str (Str.ofString "line_depth") 1014,.str (Str.ofString "line_depth") 1015,.str (Str.ofString "/claim/cut.py") 1016,.int 333 0,.int 1 0,.int 0 0,.int 0 0,.int 3 0,.ref 574,.bool true,.int 181 0,.ref 575,.none,.ref 576,.ref 577,.ref 578,.int 1018 0,.int 333 0,.str (Str.ofString "/claim/cut.py") 1019],#[]⟩
noncomputable def Js (P:Params):Obj:=bQ (cI 57) "line_depth" "line_depth" (.none) (.str (Str.ofString "gluepage.nodes") 596) 579
noncomputable def G5 (P:Params):Obj:=⟨.type "code",none,.fields #[.str (Str.ofString "natural_line") 1035,.str (Str.ofString "natural_line") 1036,.str (Str.ofString "/claim/cut.py") 1037,.int 340 0,.int 1 0,.int 0 0,.int 0 0,.int 3 0,.ref 589,.bool true,.int 181 0,.ref 590,.none,.ref 591,.ref 592,.ref 593,.int 1043 0,.int 340 0,.str (Str.ofString "/claim/cut.py") 1044],#[]⟩
noncomputable def LS (P:Params):Obj:=bQ (cI 61) "natural_line" "natural_line" (.none) (.str (Str.ofString "gluepage.packing") 1021) 594
noncomputable def IS (P:Params):Obj:=⟨.type "code",none,.fields #[.str (Str.ofString "quotient") 1054,.str (Str.ofString "quotient") 1055,.str (Str.ofString "/claim/cut.py") 1056,.int 355 0,.int 2 0,.int 0 0,.int 0 0,.int 3 0,.ref 603,.bool true,.int 181 0,.ref 604,.none,.ref 605,.ref 606,.ref 607,.int 1059 0,.int 355 0,.str (Str.ofString "/claim/cut.py") 1060],#[]⟩
noncomputable def Ku (P:Params):Obj:=bQ (cI 63) "quotient" "quotient" (.none) (.str (Str.ofString "gluepage.packing") 1021) 608
noncomputable def IN (P:Params):Obj:=⟨.type "code",none,.fields #[.str (Str.ofString "set_glue") 1062,.str (Str.ofString "set_glue") 1063,.str (Str.ofString "/claim/cut.py") 1064,.int 357 0,.int 2 0,.int 0 0,.int 0 0,.int 3 0,.ref 610,.bool true,.int 181 0,.ref 611,.none,.ref 612,.ref 613,.ref 614,.int 1070 0,.int 357 0,.str (Str.ofString "/claim/cut.py") 1071],#[]⟩
noncomputable def KI (P:Params):Obj:=bQ (cI 64) "set_glue" "set_glue" (.none) (.str (Str.ofString "gluepage.packing") 1021) 615
noncomputable def Lc (P:Params):Obj:=⟨.type "code",none,.fields #[.str (Str.ofString "flex") 1073,.str (Str.ofString "flex") 1074,.str (Str.ofString "/claim/cut.py") 1075,.int 372 0,.int 2 0,.int 0 0,.int 0 0,.int 3 0,.ref 617,.bool true,.int 181 0,.ref 618,.none,.ref 619,.ref 620,.ref 621,.int 1078 0,.int 372 0,.str (Str.ofString "/claim/cut.py") 1079],#[]⟩
noncomputable def Il (P:Params):Obj:=bQ (cI 65) "flex" "flex" (.none) (.str (Str.ofString "gluepage.packing") 1021) 622
noncomputable def Hm (P:Params):Obj:=⟨.type "code",none,.fields #[.str (Str.ofString "set_part") 1081,.str (Str.ofString "set_part") 1082,.str (Str.ofString "/claim/cut.py") 1083,.int 378 0,.int 2 0,.int 0 0,.int 0 0,.int 3 0,.ref 624,.bool true,.int 181 0,.ref 625,.none,.ref 626,.ref 627,.ref 628,.int 1086 0,.int 378 0,.str (Str.ofString "/claim/cut.py") 1087],#[]⟩
noncomputable def KT (P:Params):Obj:=bQ (cI 66) "set_part" "set_part" (.none) (.str (Str.ofString "gluepage.packing") 1021) 629
noncomputable def Ka (P:Params):Obj:=⟨.type "code",none,.fields #[.str (Str.ofString "part_size") 1089,.str (Str.ofString "part_size") 1090,.str (Str.ofString "/claim/cut.py") 1091,.int 380 0,.int 2 0,.int 0 0,.int 0 0,.int 3 0,.ref 631,.bool true,.int 181 0,.ref 632,.none,.ref 633,.ref 634,.ref 635,.int 1094 0,.int 380 0,.str (Str.ofString "/claim/cut.py") 1095],#[]⟩
noncomputable def Je (P:Params):Obj:=bQ (cI 67) "part_size" "part_size" (.none) (.str (Str.ofString "gluepage.packing") 1021) 636
noncomputable def Lu (P:Params):Obj:=⟨.type "code",none,.fields #[.str (Str.ofString "places") 1097,.str (Str.ofString "places") 1098,.str (Str.ofString "/claim/cut.py") 1099,.int 384 0,.int 1 0,.int 0 0,.int 0 0,.int 3 0,.ref 638,.bool true,.int 181 0,.ref 639,.none,.ref 640,.ref 641,.ref 642,.int 1105 0,.int 384 0,.str (Str.ofString "/claim/cut.py") 1106],#[]⟩
noncomputable def Im (P:Params):Obj:=bQ (cI 68) "places" "places" (.none) (.str (Str.ofString "gluepage.packing") 1021) 643
noncomputable def LV (P:Params):Obj:=⟨.type "code",none,.fields #[.str (Str.ofString "goal_size") 1118,.str (Str.ofString "goal_size") 1119,.str (Str.ofString "/claim/cut.py") 1120,.int 407 0,.int 3 0,.int 0 0,.int 0 0,.int 3 0,.ref 652,.bool true,.int 181 0,.ref 653,.none,.ref 654,.ref 655,.ref 656,.int 1124 0,.int 407 0,.str (Str.ofString "/claim/cut.py") 1125],#[]⟩
noncomputable def Ll (P:Params):Obj:=bQ (cI 70) "goal_size" "goal_size" (.none) (.str (Str.ofString "gluepage.packing") 1021) 657
noncomputable def Jc (P:Params):Obj:=⟨.type "code",none,.fields #[.str (Str.ofString "set_box") 1127,.str (Str.ofString "set_box") 1128,.str (Str.ofString "/claim/cut.py") 1129,.int 412 0,.int 3 0,.int 0 0,.int 0 0,.int 3 0,.ref 659,.bool true,.int 181 0,.ref 660,.none,.ref 661,.ref 662,.ref 663,.int 1134 0,.int 412 0,.str (Str.ofString "/claim/cut.py") 1135],#[]⟩
noncomputable def Lv (P:Params):Obj:=bQ (cI 71) "set_box" "set_box" (.none) (.str (Str.ofString "gluepage.packing") 1021) 664
noncomputable def JZ (P:Params):Obj:=⟨.type "tuple",none,.seq #[.int 1 1024,.int 0 1137,.none] 0,#[]⟩
noncomputable def K7 (P:Params):Obj:=⟨.type "code",none,.fields #[.str (Str.ofString "hpack") 1138,.str (Str.ofString "hpack") 1139,.str (Str.ofString "/claim/cut.py") 1140,.int 415 0,.int 4 0,.int 0 0,.int 0 0,.int 3 0,.ref 667,.bool true,.int 181 0,.ref 668,.none,.ref 669,.ref 670,.ref 671,.int 1152 0,.int 415 0,.str (Str.ofString "/claim/cut.py") 1153],#[]⟩
noncomputable def Hx (P:Params):Obj:=bQ (cI 72) "hpack" "hpack" (.ref 666) (.str (Str.ofString "gluepage.packing") 1021) 672
noncomputable def Hd (P:Params):Obj:=⟨.type "tuple",none,.seq #[.int 0 1183,.int 0 1184,.int 0 1185,.int 0 1186,.int 0 1187,.int 0 1188] 0,#[]⟩
noncomputable def JN (P:Params):Obj:=⟨.type "tuple",none,.seq #[.int 0 1192,.int 196608 1193,.int 98304 1194,.int 65536 1195,.int 262144 1196,.int 655360 1197,.int 65536 1198] 0,#[]⟩
noncomputable def G4 (P:Params):Obj:=⟨.type "code",none,.fields #[.str (Str.ofString "is_size") 1200,.str (Str.ofString "is_size") 1201,.str (Str.ofString "/claim/cut.py") 1202,.int 433 0,.int 1 0,.int 0 0,.int 0 0,.int 3 0,.ref 684,.bool true,.int 181 0,.ref 685,.none,.ref 686,.ref 687,.ref 688,.int 1204 0,.int 433 0,.str (Str.ofString "/claim/cut.py") 1205],#[]⟩
noncomputable def Jm (P:Params):Obj:=bQ (cI 83) "is_size" "is_size" (.none) (.str (Str.ofString "gluepage.fonts") 1155) 689
noncomputable def JI (P:Params):Obj:=⟨.type "code",none,.fields #[.str (Str.ofString "check_sizes") 1207,.str (Str.ofString "check_sizes") 1208,.str (Str.ofString "/claim/cut.py") 1209,.int 435 0,.int 1 0,.int 0 0,.int 0 0,.int 3 0,.ref 691,.bool true,.int 181 0,.ref 692,.none,.ref 693,.ref 694,.ref 695,.int 1212 0,.int 435 0,.str (Str.ofString "/claim/cut.py") 1213],#[]⟩
noncomputable def Jy (P:Params):Obj:=bQ (cI 84) "check_sizes" "check_sizes" (.none) (.str (Str.ofString "gluepage.fonts") 1155) 696
noncomputable def H8 (P:Params):Obj:=⟨.type "code",none,.fields #[.str (Str.ofString "check_chars") 1225,.str (Str.ofString "check_chars") 1226,.str (Str.ofString "/claim/cut.py") 1227,.int 445 0,.int 2 0,.int 0 0,.int 0 0,.int 3 0,.ref 705,.bool true,.int 181 0,.ref 706,.none,.ref 707,.ref 708,.ref 709,.int 1234 0,.int 445 0,.str (Str.ofString "/claim/cut.py") 1235],#[]⟩
noncomputable def HV (P:Params):Obj:=bQ (cI 86) "check_chars" "check_chars" (.none) (.str (Str.ofString "gluepage.fonts") 1155) 710
noncomputable def Jk (P:Params):Obj:=⟨.type "code",none,.fields #[.str (Str.ofString "check_larger") 1237,.str (Str.ofString "check_larger") 1238,.str (Str.ofString "/claim/cut.py") 1239,.int 457 0,.int 1 0,.int 0 0,.int 0 0,.int 3 0,.ref 712,.bool true,.int 181 0,.ref 713,.none,.ref 714,.ref 715,.ref 716,.int 1244 0,.int 457 0,.str (Str.ofString "/claim/cut.py") 1245],#[]⟩
noncomputable def K0 (P:Params):Obj:=bQ (cI 87) "check_larger" "check_larger" (.none) (.str (Str.ofString "gluepage.fonts") 1155) 717
noncomputable def Ki (P:Params):Obj:=⟨.type "code",none,.fields #[.str (Str.ofString "check_program") 1247,.str (Str.ofString "check_program") 1248,.str (Str.ofString "/claim/cut.py") 1249,.int 465 0,.int 4 0,.int 0 0,.int 0 0,.int 3 0,.ref 719,.bool true,.int 181 0,.ref 720,.none,.ref 721,.ref 722,.ref 723,.int 1262 0,.int 465 0,.str (Str.ofString "/claim/cut.py") 1263],#[]⟩
noncomputable def Jl (P:Params):Obj:=bQ (cI 88) "check_program" "check_program" (.none) (.str (Str.ofString "gluepage.fonts") 1155) 724
noncomputable def Id (P:Params):Obj:=⟨.type "code",none,.fields #[.str (Str.ofString "left_start") 1265,.str (Str.ofString "left_start") 1266,.str (Str.ofString "/claim/cut.py") 1267,.int 484 0,.int 1 0,.int 0 0,.int 0 0,.int 3 0,.ref 726,.bool true,.int 181 0,.ref 727,.none,.ref 728,.ref 729,.ref 730,.int 1273 0,.int 484 0,.str (Str.ofString "/claim/cut.py") 1274],#[]⟩
noncomputable def H3 (P:Params):Obj:=bQ (cI 89) "left_start" "left_start" (.none) (.str (Str.ofString "gluepage.fonts") 1155) 731
noncomputable def KO (P:Params):Obj:=⟨.type "tuple",none,.seq #[.ref 740,.ref 741,.int 256 1157] 0,#[]⟩
noncomputable def LR (P:Params):Obj:=⟨.type "code",none,.fields #[.str (Str.ofString "__init__") 1288,.str (Str.ofString "Font.__init__") 1289,.str (Str.ofString "/claim/cut.py") 1290,.int 491 0,.int 9 0,.int 0 0,.int 0 0,.int 3 0,.ref 743,.bool true,.int 181 0,.ref 744,.none,.ref 745,.ref 746,.ref 747,.int 1300 0,.int 491 0,.str (Str.ofString "/claim/cut.py") 1301],#[]⟩
noncomputable def Hb (P:Params):Obj:=bQ (jS 90 0) "__init__" "Font.__init__" (.ref 742) (.str (Str.ofString "gluepage.fonts") 1155) 748
noncomputable def Ho (P:Params):Obj:=⟨.type "code",none,.fields #[.str (Str.ofString "width") 1311,.str (Str.ofString "Font.width") 1312,.str (Str.ofString "/claim/cut.py") 1313,.int 518 0,.int 2 0,.int 0 0,.int 0 0,.int 3 0,.ref 757,.bool true,.int 181 0,.ref 758,.none,.ref 759,.ref 760,.ref 761,.int 1316 0,.int 518 0,.str (Str.ofString "/claim/cut.py") 1317],#[]⟩
noncomputable def LO (P:Params):Obj:=bQ (jS 90 2) "width" "Font.width" (.none) (.str (Str.ofString "gluepage.fonts") 1155) 762
noncomputable def Jb (P:Params):Obj:=⟨.type "code",none,.fields #[.str (Str.ofString "height") 1319,.str (Str.ofString "Font.height") 1320,.str (Str.ofString "/claim/cut.py") 1321,.int 521 0,.int 2 0,.int 0 0,.int 0 0,.int 3 0,.ref 764,.bool true,.int 181 0,.ref 765,.none,.ref 766,.ref 767,.ref 768,.int 1324 0,.int 521 0,.str (Str.ofString "/claim/cut.py") 1325],#[]⟩
noncomputable def K5 (P:Params):Obj:=bQ (jS 90 3) "height" "Font.height" (.none) (.str (Str.ofString "gluepage.fonts") 1155) 769
noncomputable def Jo (P:Params):Obj:=⟨.type "code",none,.fields #[.str (Str.ofString "depth") 1327,.str (Str.ofString "Font.depth") 1328,.str (Str.ofString "/claim/cut.py") 1329,.int 524 0,.int 2 0,.int 0 0,.int 0 0,.int 3 0,.ref 771,.bool true,.int 181 0,.ref 772,.none,.ref 773,.ref 774,.ref 775,.int 1332 0,.int 524 0,.str (Str.ofString "/claim/cut.py") 1333],#[]⟩
noncomputable def Kx (P:Params):Obj:=bQ (jS 90 4) "depth" "Font.depth" (.none) (.str (Str.ofString "gluepage.fonts") 1155) 776
noncomputable def Lp (P:Params):Obj:=⟨.type "dict",none,.dict (dE P "__module__" 1283 (.str (Str.ofString "gluepage.fonts") 1155)::dE P "__firstlineno__" 1287 (.int 489 1286)::dE P "__init__" 1302 (.ref 749)::dE P "has" 1310 (.ref 756)::dE P "width" 1318 (.ref 763)::dE P "height" 1326 (.ref 770)::dE P "depth" 1334 (.ref 777)::dE P "italic" 1342 (.ref 784)::dE P "starts" 1350 (.ref 791)::dE P "larger" 1359 (.ref 798)::dE P "pieces" 1368 (.ref 805)::dE P "param" 1376 (.ref 812)::dE P "set_param" 1385 (.ref 819)::dE P "__static_attributes__" 1399 (.ref 820)::dE P "__dict__" 1401 (.ref 823)::dE P "__weakref__" 1403 (.ref 824)::dE P "__doc__" 1404 (.none)::[]).toArray 4,#[]⟩
noncomputable def Jd (P:Params):Obj:=tO 822 "Font" 821 #[none,none,some (.str (Str.ofString "Font") 1276),some (.str (Str.ofString "Font") 1284),some (.builtin "object.__new__"),some (.bool true)]
noncomputable def H0 (P:Params):Obj:=⟨.type "code",none,.fields #[.str (Str.ofString "font_name") 1407,.str (Str.ofString "font_name") 1408,.str (Str.ofString "/claim/cut.py") 1409,.int 546 0,.int 1 0,.int 0 0,.int 0 0,.int 3 0,.ref 827,.bool true,.int 181 0,.ref 828,.none,.ref 829,.ref 830,.ref 831,.int 1413 0,.int 546 0,.str (Str.ofString "/claim/cut.py") 1414],#[]⟩
noncomputable def HL (P:Params):Obj:=bQ (cI 91) "font_name" "font_name" (.none) (.str (Str.ofString "gluepage.fonts") 1155) 832
noncomputable def GS (P:Params):Obj:=⟨.type "tuple",none,.seq #[] 0,#[]⟩
noncomputable def I6 (P:Params):Obj:=⟨.type "tuple",none,.seq #[] 0,#[]⟩
noncomputable def Kf (P:Params):Obj:=⟨.type "tuple",none,.seq #[.ref 683,.ref 834,.ref 835,.int 256 1157] 0,#[]⟩
noncomputable def J7 (P:Params):Obj:=⟨.type "code",none,.fields #[.str (Str.ofString "font_of_rows") 1416,.str (Str.ofString "font_of_rows") 1417,.str (Str.ofString "/claim/cut.py") 1418,.int 553 0,.int 6 0,.int 0 0,.int 0 0,.int 3 0,.ref 837,.bool true,.int 181 0,.ref 838,.none,.ref 839,.ref 840,.ref 841,.int 1427 0,.int 553 0,.str (Str.ofString "/claim/cut.py") 1428],#[]⟩
noncomputable def JF (P:Params):Obj:=bQ (cI 92) "font_of_rows" "font_of_rows" (.ref 836) (.str (Str.ofString "gluepage.fonts") 1155) 842
noncomputable def Lr (P:Params):Obj:=⟨.type "code",none,.fields #[.str (Str.ofString "_law_heap") 1432,.str (Str.ofString "_law_heap") 1433,.str (Str.ofString "/claim/cut.py") 1434,.int 563 0,.int 1 0,.int 0 0,.int 0 0,.int 3 0,.ref 844,.bool true,.int 181 0,.ref 845,.none,.ref 846,.ref 847,.ref 848,.int 1438 0,.int 563 0,.str (Str.ofString "/claim/cut.py") 1439],#[]⟩
noncomputable def JY (P:Params):Obj:=bQ (cI 94) "_law_heap" "_law_heap" (.none) (.str (Str.ofString "law_sq0063_01") 1430) 849
noncomputable def LE (P:Params):Obj:=⟨.type "code",none,.fields #[.str (Str.ofString "_law_take") 1441,.str (Str.ofString "_law_take") 1442,.str (Str.ofString "/claim/cut.py") 1443,.int 568 0,.int 2 0,.int 0 0,.int 0 0,.int 3 0,.ref 851,.bool true,.int 181 0,.ref 852,.none,.ref 853,.ref 854,.ref 855,.int 1447 0,.int 568 0,.str (Str.ofString "/claim/cut.py") 1448],#[]⟩
noncomputable def HD (P:Params):Obj:=bQ (cI 95) "_law_take" "_law_take" (.none) (.str (Str.ofString "law_sq0063_01") 1430) 856
noncomputable def LK (P:Params):Obj:=⟨.type "code",none,.fields #[.str (Str.ofString "_law_size") 1450,.str (Str.ofString "_law_size") 1451,.str (Str.ofString "/claim/cut.py") 1452,.int 575 0,.int 1 0,.int 0 0,.int 0 0,.int 3 0,.ref 858,.bool true,.int 181 0,.ref 859,.none,.ref 860,.ref 861,.ref 862,.int 1455 0,.int 575 0,.str (Str.ofString "/claim/cut.py") 1456],#[]⟩
noncomputable def G6 (P:Params):Obj:=bQ (cI 96) "_law_size" "_law_size" (.none) (.str (Str.ofString "law_sq0063_01") 1430) 863
noncomputable def Li (P:Params):Obj:=⟨.type "code",none,.fields #[.str (Str.ofString "_law_part") 1458,.str (Str.ofString "_law_part") 1459,.str (Str.ofString "/claim/cut.py") 1460,.int 580 0,.int 3 0,.int 0 0,.int 0 0,.int 3 0,.ref 865,.bool true,.int 181 0,.ref 866,.none,.ref 867,.ref 868,.ref 869,.int 1466 0,.int 580 0,.str (Str.ofString "/claim/cut.py") 1467],#[]⟩
noncomputable def JC (P:Params):Obj:=bQ (cI 97) "_law_part" "_law_part" (.none) (.str (Str.ofString "law_sq0063_01") 1430) 870
noncomputable def KP (P:Params):Obj:=⟨.type "code",none,.fields #[.str (Str.ofString "_law_mixed") 1469,.str (Str.ofString "_law_mixed") 1470,.str (Str.ofString "/claim/cut.py") 1471,.int 597 0,.int 2 0,.int 0 0,.int 0 0,.int 3 0,.ref 872,.bool true,.int 181 0,.ref 873,.none,.ref 874,.ref 875,.ref 876,.int 1476 0,.int 597 0,.str (Str.ofString "/claim/cut.py") 1477],#[]⟩
noncomputable def GT (P:Params):Obj:=bQ (cI 98) "_law_mixed" "_law_mixed" (.none) (.str (Str.ofString "law_sq0063_01") 1430) 877
noncomputable def Jn (P:Params):Obj:=⟨.type "code",none,.fields #[.str (Str.ofString "_law_told") 1479,.str (Str.ofString "_law_told") 1480,.str (Str.ofString "/claim/cut.py") 1481,.int 602 0,.int 1 0,.int 0 0,.int 0 0,.int 3 0,.ref 879,.bool true,.int 181 0,.ref 880,.none,.ref 881,.ref 882,.ref 883,.int 1485 0,.int 602 0,.str (Str.ofString "/claim/cut.py") 1486],#[]⟩
noncomputable def Kn (P:Params):Obj:=bQ (cI 99) "_law_told" "_law_told" (.none) (.str (Str.ofString "law_sq0063_01") 1430) 884
noncomputable def Ib (P:Params):Obj:=⟨.type "code",none,.fields #[.str (Str.ofString "_law_run") 1488,.str (Str.ofString "_law_run") 1489,.str (Str.ofString "/claim/cut.py") 1490,.int 605 0,.int 2 0,.int 0 0,.int 0 0,.int 3 0,.ref 886,.bool true,.int 181 0,.ref 887,.none,.ref 888,.ref 889,.ref 890,.int 1495 0,.int 605 0,.str (Str.ofString "/claim/cut.py") 1496],#[]⟩
noncomputable def GV (P:Params):Obj:=bQ (cI 100) "_law_run" "_law_run" (.none) (.str (Str.ofString "law_sq0063_01") 1430) 891
noncomputable def Ju (P:Params):Obj:=⟨.type "code",none,.fields #[.str (Str.ofString "_law_flat") 1498,.str (Str.ofString "_law_flat") 1499,.str (Str.ofString "/claim/cut.py") 1500,.int 611 0,.int 1 0,.int 0 0,.int 0 0,.int 3 0,.ref 893,.bool true,.int 181 0,.ref 894,.none,.ref 895,.ref 896,.ref 897,.int 1504 0,.int 611 0,.str (Str.ofString "/claim/cut.py") 1505],#[]⟩
noncomputable def Hn (P:Params):Obj:=bQ (cI 101) "_law_flat" "_law_flat" (.none) (.str (Str.ofString "law_sq0063_01") 1430) 898
noncomputable def I5 (P:Params):Obj:=⟨.type "code",none,.fields #[.str (Str.ofString "law") 1507,.str (Str.ofString "law") 1508,.str (Str.ofString "/claim/cut.py") 1509,.int 616 0,.int 1 0,.int 0 0,.int 0 0,.int 3 0,.ref 900,.bool true,.int 181 0,.ref 901,.none,.none,.none,.ref 902,.int 1510 0,.int 616 0,.str (Str.ofString "/claim/cut.py") 1511],#[]⟩
noncomputable def KQ (P:Params):Obj:=bQ (cI 102) "law" "law" (.none) (.str (Str.ofString "law_sq0063_01") 1430) 903
noncomputable def K (P:Params):Frag:=(nat_lit 3,o3 P)::(nat_lit 100,J6 P)::(nat_lit 101,KC P)::(nat_lit 107,Lg P)::(nat_lit 108,LQ P)::(nat_lit 114,Jw P)::(nat_lit 115,Lx P)::(nat_lit 121,I7 P)::(nat_lit 122,LB P)::(nat_lit 128,Lo P)::(nat_lit 129,Ko P)::(nat_lit 163,HZ P)::(nat_lit 164,Ke P)::(nat_lit 186,Jx P)::(nat_lit 192,Kb P)::(nat_lit 193,LJ P)::(nat_lit 199,J8 P)::(nat_lit 200,KD P)::(nat_lit 245,LH P)::(nat_lit 246,KE P)::(nat_lit 256,G3 P)::(nat_lit 257,KR P)::(nat_lit 270,Ip P)::(nat_lit 271,Ja P)::(nat_lit 277,Le P)::(nat_lit 278,JL P)::(nat_lit 284,Kc P)::(nat_lit 285,H7 P)::(nat_lit 291,Iy P)::(nat_lit 292,HI P)::(nat_lit 298,IH P)::(nat_lit 299,Hy P)::(nat_lit 308,I0 P)::(nat_lit 309,Jv P)::(nat_lit 343,IQ P)::(nat_lit 344,JQ P)::(nat_lit 350,Kp P)::(nat_lit 351,Kh P)::(nat_lit 364,IJ P)::(nat_lit 365,J5 P)::(nat_lit 367,HU P)::(nat_lit 368,Ir P)::(nat_lit 385,G8 P)::(nat_lit 386,JR P)::(nat_lit 388,Kd P)::(nat_lit 389,I2 P)::(nat_lit 406,IF P)::(nat_lit 407,KU P)::(nat_lit 409,Hz P)::(nat_lit 410,HY P)::(nat_lit 427,Ks P)::(nat_lit 428,Kr P)::(nat_lit 430,JK P)::(nat_lit 431,LC P)::(nat_lit 443,LG P)::(nat_lit 449,Jq P)::(nat_lit 450,LN P)::(nat_lit 452,JV P)::(nat_lit 453,Ig P)::(nat_lit 470,JU P)::(nat_lit 471,LM P)::(nat_lit 473,HA P)::(nat_lit 474,Lj P)::(nat_lit 491,Lh P)::(nat_lit 492,KV P)::(nat_lit 494,Iw P)::(nat_lit 495,HR P)::(nat_lit 512,IY P)::(nat_lit 513,Hg P)::(nat_lit 515,La P)::(nat_lit 516,Ld P)::(nat_lit 526,GX P)::(nat_lit 527,HJ P)::(nat_lit 538,Kw P)::(nat_lit 539,KA P)::(nat_lit 540,KZ P)::(nat_lit 544,Ik P)::(nat_lit 545,Hq P)::(nat_lit 546,HE P)::(nat_lit 550,JH P)::(nat_lit 551,IZ P)::(nat_lit 555,LP P)::(nat_lit 556,Ln P)::(nat_lit 560,KG P)::(nat_lit 561,J2 P)::(nat_lit 565,Io P)::(nat_lit 566,IR P)::(nat_lit 572,K3 P)::(nat_lit 573,I3 P)::(nat_lit 579,I8 P)::(nat_lit 580,Js P)::(nat_lit 594,G5 P)::(nat_lit 595,LS P)::(nat_lit 608,IS P)::(nat_lit 609,Ku P)::(nat_lit 615,IN P)::(nat_lit 616,KI P)::(nat_lit 622,Lc P)::(nat_lit 623,Il P)::(nat_lit 629,Hm P)::(nat_lit 630,KT P)::(nat_lit 636,Ka P)::(nat_lit 637,Je P)::(nat_lit 643,Lu P)::(nat_lit 644,Im P)::(nat_lit 657,LV P)::(nat_lit 658,Ll P)::(nat_lit 664,Jc P)::(nat_lit 665,Lv P)::(nat_lit 666,JZ P)::(nat_lit 672,K7 P)::(nat_lit 673,Hx P)::(nat_lit 682,Hd P)::(nat_lit 683,JN P)::(nat_lit 689,G4 P)::(nat_lit 690,Jm P)::(nat_lit 696,JI P)::(nat_lit 697,Jy P)::(nat_lit 710,H8 P)::(nat_lit 711,HV P)::(nat_lit 717,Jk P)::(nat_lit 718,K0 P)::(nat_lit 724,Ki P)::(nat_lit 725,Jl P)::(nat_lit 731,Id P)::(nat_lit 732,H3 P)::(nat_lit 742,KO P)::(nat_lit 748,LR P)::(nat_lit 749,Hb P)::(nat_lit 762,Ho P)::(nat_lit 763,LO P)::(nat_lit 769,Jb P)::(nat_lit 770,K5 P)::(nat_lit 776,Jo P)::(nat_lit 777,Kx P)::(nat_lit 821,Lp P)::(nat_lit 822,Jd P)::(nat_lit 832,H0 P)::(nat_lit 833,HL P)::(nat_lit 834,GS P)::(nat_lit 835,I6 P)::(nat_lit 836,Kf P)::(nat_lit 842,J7 P)::(nat_lit 843,JF P)::(nat_lit 849,Lr P)::(nat_lit 850,JY P)::(nat_lit 856,LE P)::(nat_lit 857,HD P)::(nat_lit 863,LK P)::(nat_lit 864,G6 P)::(nat_lit 870,Li P)::(nat_lit 871,JC P)::(nat_lit 877,KP P)::(nat_lit 878,GT P)::(nat_lit 884,Jn P)::(nat_lit 885,Kn P)::(nat_lit 891,Ib P)::(nat_lit 892,GV P)::(nat_lit 898,Ju P)::(nat_lit 899,Hn P)::(nat_lit 903,I5 P)::(nat_lit 904,KQ P)::[]
noncomputable def AS:List Addr:=nat_lit 3::nat_lit 100::nat_lit 101::nat_lit 107::nat_lit 108::nat_lit 114::nat_lit 115::nat_lit 121::nat_lit 122::nat_lit 128::nat_lit 129::nat_lit 163::nat_lit 164::nat_lit 186::nat_lit 192::nat_lit 193::nat_lit 199::nat_lit 200::nat_lit 245::nat_lit 246::nat_lit 256::nat_lit 257::nat_lit 270::nat_lit 271::nat_lit 277::nat_lit 278::nat_lit 284::nat_lit 285::nat_lit 291::nat_lit 292::nat_lit 298::nat_lit 299::nat_lit 308::nat_lit 309::nat_lit 343::nat_lit 344::nat_lit 350::nat_lit 351::nat_lit 364::nat_lit 365::nat_lit 367::nat_lit 368::nat_lit 385::nat_lit 386::nat_lit 388::nat_lit 389::nat_lit 406::nat_lit 407::nat_lit 409::nat_lit 410::nat_lit 427::nat_lit 428::nat_lit 430::nat_lit 431::nat_lit 443::nat_lit 449::nat_lit 450::nat_lit 452::nat_lit 453::nat_lit 470::nat_lit 471::nat_lit 473::nat_lit 474::nat_lit 491::nat_lit 492::nat_lit 494::nat_lit 495::nat_lit 512::nat_lit 513::nat_lit 515::nat_lit 516::nat_lit 526::nat_lit 527::nat_lit 538::nat_lit 539::nat_lit 540::nat_lit 544::nat_lit 545::nat_lit 546::nat_lit 550::nat_lit 551::nat_lit 555::nat_lit 556::nat_lit 560::nat_lit 561::nat_lit 565::nat_lit 566::nat_lit 572::nat_lit 573::nat_lit 579::nat_lit 580::nat_lit 594::nat_lit 595::nat_lit 608::nat_lit 609::nat_lit 615::nat_lit 616::nat_lit 622::nat_lit 623::nat_lit 629::nat_lit 630::nat_lit 636::nat_lit 637::nat_lit 643::nat_lit 644::nat_lit 657::nat_lit 658::nat_lit 664::nat_lit 665::nat_lit 666::nat_lit 672::nat_lit 673::nat_lit 682::nat_lit 683::nat_lit 689::nat_lit 690::nat_lit 696::nat_lit 697::nat_lit 710::nat_lit 711::nat_lit 717::nat_lit 718::nat_lit 724::nat_lit 725::nat_lit 731::nat_lit 732::nat_lit 742::nat_lit 748::nat_lit 749::nat_lit 762::nat_lit 763::nat_lit 769::nat_lit 770::nat_lit 776::nat_lit 777::nat_lit 821::nat_lit 822::nat_lit 832::nat_lit 833::nat_lit 834::nat_lit 835::nat_lit 836::nat_lit 842::nat_lit 843::nat_lit 849::nat_lit 850::nat_lit 856::nat_lit 857::nat_lit 863::nat_lit 864::nat_lit 870::nat_lit 871::nat_lit 877::nat_lit 878::nat_lit 884::nat_lit 885::nat_lit 891::nat_lit 892::nat_lit 898::nat_lit 899::nat_lit 903::nat_lit 904::[]
theorem Cn:∀P,AS=(K P).map (·.1):=fun zw=>by kernel_rfl
noncomputable abbrev tW:=PySem.W.Fast.tw10156331382660048174
noncomputable abbrev A5:=PySem.W.Fast.tw11892475500146522536
noncomputable abbrev Bg:=PySem.W.Fast.tw14364793385576792824
noncomputable abbrev GP:=PySem.W.Fast.tw6613529449190102663
noncomputable abbrev zn:=@PySem.W.Fast.tw4187177175401517315
noncomputable def mr (p:Program) (w:World) (n₀:Nat) (ann:Option Value):Nat->SharedT->Thread->Option SharedT
 | 0,_,_=>none
 | n + 1,s,t=>match through t with
  | true=>some s
  | false=>match GP n₀ ann t with
   | false=>none
   | true=>match tW (A5 Bg) p w s t with
    | some (s',t')=>mr p w n₀ ann n s' t'
    | none=>none
theorem pk {p:Program} {w:World} {n₀:Nat} {ann:Option Value}:∀(n:Nat) (s:SharedT) (t:Thread) (r:SharedT),mr p w n₀ ann n s t=some r->topRun treeTable p w n₀ ann n s.abs t=some r.abs
 | 0,_,_,_,h=>by simp [mr] at h
 | n + 1,s,t,r,h=>by
  unfold mr at h
  unfold topRun
  cases ht:through t with
  | true=>rw [ht] at h; cases h; rfl
  | false =>
   rw [ht] at h
   dsimp only at h ⊢
   have e1:stepOk n₀ ann t=GP n₀ ann t:=by rw [show @stepOk = @GP from PySem.W.Fast.te6613529449190102663]
   rw [e1]
   cases hk:GP n₀ ann t with
   | false=>rw [hk] at h; cases h
   | true =>
    rw [hk] at h
    dsimp only at h ⊢
    have e2:tW (A5 Bg) p w s t=stepT (denote treeTable) p w s t:=by
     rw [show @stepT = @tW from PySem.W.Fast.te10156331382660048174,show @denote = @A5 from PySem.W.Fast.te11892475500146522536,show @treeTable = @Bg from PySem.W.Fast.te14364793385576792824]
    rw [e2] at h
    cases hs:stepT (denote treeTable) p w s t with
    | none=>rw [hs] at h; cases h
    | some x =>
     obtain ⟨s',t'⟩:=x
     rw [hs] at h
     rw [stepT_spec hs]
     exact pk n s' t' r h
noncomputable def T0 (P:Params):BT:=.node (boot_o_0 P) (.node (boot_o_1 P) (.node (boot_o_3 P) (.node (boot_o_7 P) .nil .nil) .nil) (.node (boot_o_5 P) (.node (boot_o_9 P) .nil .nil) .nil)) (.node (boot_o_2 P) (.node (boot_o_4 P) (.node (boot_o_8 P) .nil .nil) .nil) (.node (boot_o_6 P) (.node (boot_o_10 P) .nil .nil) .nil))
theorem By (P:Params):absHeap (T0 P) 11 {}=boot_heap P:=by kernel_rfl
noncomputable def S0 (w:World) (os:OsState):SharedT:=⟨T0 w.params,11,{},#[],boot_drawn,boot_toks,os⟩
noncomputable def qv:Program:={ pr with main:={ pr.main with body:=pr.main.body.drop 102 } }
noncomputable def looseN:List Str:=(pr.main.scope.names.map (·.1)).filter fun n=>!(n == Str.ofString "law") && !(n == Str.ofString "__name__")
noncomputable abbrev XtO:Shared->Bool:=fun s=>xlAt qv [] s && recOk [] s
noncomputable abbrev Ni:=List (Option Obj)
noncomputable def sw (P:Params) (s:Shared):Bool:=staticsOk (importedModules pr.main.body) (boot_heap P) s.heap && namesBound pr s.heap && gensDone s && laidKept (boot_heap P) s.heap
noncomputable def w9 (w:World) (s:SharedT):=(sw w.params s.abs,zn qv looseN (importedModules pr.main.body) XtO true s.abs,Nat.ble 905 s.n,AS.map s.tree.get)
noncomputable abbrev u7 (w:World):=(true,openGood qv looseN,true,(K w.params).map fun p=>some p.2)
noncomputable abbrev fQ (w:World) (b:Bool):World:=w.withFollow "special-get-raises" b
theorem ND (w:World) (os:OsState):(mr pr (fQ w false) 11 (some (.ref 6)) 8000 (S0 (fQ w false) os) (topStub pr)).map (w9 (fQ w false))=some (u7 (fQ w false)):=by kernel_rfl
theorem No (w:World) (os:OsState):(mr pr (fQ w true) 11 (some (.ref 6)) 8000 (S0 (fQ w true) os) (topStub pr)).map (w9 (fQ w true))=some (u7 (fQ w true)):=by kernel_rfl
theorem sN {T:BT} {n:Nat} {life:Life}:∀{l:List (Addr×Obj)},(l.map (·.1)).map T.get=l.map (fun p=>some p.2)->(∀p∈l,p.1 < n)->(∀p∈l,alive p.2=some p.2)->
  (l.map (·.1)).map (absHeap T n life).get? = l.map fun p=>some p.2
 | [],_,_,_=>rfl
 | p::l,h,hn,ha=>by
  simp only [List.map_cons,List.cons.injEq] at h ⊢
  exact ⟨(abs_get (hn p (.head _)) h.1).trans (ha p (.head _)),sN h.2 (fun q hq=>hn q (.tail _ hq)) fun q hq=>ha q (.tail _ hq)⟩
theorem A1 (P:Params):(K P).all (fun p=>(match p.2.data with | .freed=>false | _=>true))=true:=by kernel_rfl
theorem HX:AS.all (fun a=>Nat.blt a 905)=true:=by kernel_rfl
theorem uJ {o:Obj} (h:(match o.data with | .freed=>false | _=>true)=true):alive o=some o:=by
 obtain ⟨c,d,dt,sl⟩:=o
 cases dt <;> first | rfl | cases h
theorem Dj (P:Params):∀p∈K P,p.1 < 905/\alive p.2=some p.2:=fun p hp=>by
 refine ⟨?_,uJ (List.all_eq_true.mp (A1 P) p hp)⟩
 have h:=List.all_eq_true.mp HX p.1 (by rw [Cn P]; exact List.mem_map_of_mem hp)
 exact Nat.le_of_ble_eq_true h
theorem qI {w:World} {os:OsState} (h:(mr pr w 11 (some (.ref 6)) 8000 (S0 w os) (topStub pr)).map (w9 w)=some (u7 w)) :
  ∃s:Shared,topRun treeTable pr w 11 (some (.ref 6)) 8000 ⟨boot_heap w.params,#[],boot_drawn,boot_toks,os⟩ (topStub pr)=some s/\sw w.params s=true/\
   openSeen qv looseN (importedModules pr.main.body) XtO true s=openGood qv looseN/\AS.map s.heap.get? = (K w.params).map fun p=>some p.2:=by
 apply bc;intro ng
 obtain ⟨s,e,e'⟩:=Option.map_eq_some_iff.mp h
 apply ng;clear ng
 have e1:sw w.params s.abs=true:=congrArg Prod.fst e'
 have e2:zn qv looseN (importedModules pr.main.body) XtO true s.abs=openGood qv looseN:=congrArg (fun x=>x.2.1) e'
 have e3:Nat.ble 905 s.n=true:=congrArg (fun x=>x.2.2.1) e'
 have e4:AS.map s.tree.get=(K w.params).map fun p=>some p.2:=congrArg (fun x=>x.2.2.2) e'
 have r:=pk _ _ _ _ e
 have z:(S0 w os).abs=⟨boot_heap w.params,#[],boot_drawn,boot_toks,os⟩:=by
  unfold S0 SharedT.abs
  rw [By]
 rw [z] at r
 have hn:905<=s.n:=Nat.le_of_ble_eq_true e3
 have e5:AS.map s.abs.heap.get? = (K w.params).map fun p=>some p.2:=by
  rw [Cn w.params] at e4 ⊢
  exact sN e4 (fun p hp=>Nat.lt_of_lt_of_le (Dj _ p hp).1 hn) fun p hp=>(Dj _ p hp).2
 have e6:openSeen qv looseN (importedModules pr.main.body) XtO true s.abs=openGood qv looseN :=
  (congrFun (congrFun (congrFun (congrFun (congrFun (congrFun PySem.W.Fast.te4187177175401517315 qv) looseN) (importedModules pr.main.body)) XtO) true) s.abs).trans e2
 exact ⟨s.abs,r,e1,e6,e5⟩
theorem r5:opening pr=plainProg pr.main.scope.names:=by kernel_rfl
theorem qa (s:Shared):fenceModules? pr s=some s:=by kernel_rfl
theorem tJ (w:World):((boot_heap w.params).isNs mainGlobals && (#[]:Array GenState).size == 0,(boot_heap w.params).objs.size,(boot_heap w.params).nsMap mainGlobals "__annotations__")=(true,11,some (.ref 6)):=by kernel_rfl
noncomputable abbrev HK:Hook:=kHook K AS Cn
theorem m8 {w:World} {os:OsState} {s:Shared} (r:topRun treeTable pr w 11 (some (.ref 6)) 8000 ⟨boot_heap w.params,#[],boot_drawn,boot_toks,os⟩ (topStub pr)=some s)
  (e1:(staticsOk (importedModules pr.main.body) (boot_heap w.params) s.heap && namesBound pr s.heap && gensDone s && laidKept (boot_heap w.params) s.heap)=true) :
  topFrom treeTable pr w 8000 ⟨boot_heap w.params,#[],boot_drawn,boot_toks,os⟩=some s:=by
 have sz:=tJ w
 have z1:=congrArg Prod.fst sz
 have z2:=congrArg (fun x=>x.2.1) sz
 have z3:=congrArg (fun x=>x.2.2) sz
 dsimp only at z1 z2 z3
 unfold topFrom
 dsimp only
 rw [z1,z2,z3,r]
 simp only [Option.bind_some]
 rw [e1]
theorem xU {w:World} {α:Type} {f:Shared->α} {v:α} (h:∀os,∃s,topFrom treeTable pr w 8000 ⟨boot_heap w.params,#[],boot_drawn,boot_toks,os⟩=some s/\f s=v):(openEnds treeTable pr w 8000).map f=some v:=by
 apply bc;intro ng
 obtain ⟨⟨h',gs,d,k,os⟩,e,e'⟩:=Option.map_eq_some_iff.mp (boot_open (N:=8000) r5 (by decide) qa w)
 simp only [Prod.mk.injEq] at e'
 obtain ⟨rfl,rfl,rfl,rfl⟩:=e'
 obtain ⟨s,h1,h2⟩:=h os
 apply ng;clear ng
 unfold openEnds
 rw [e,Option.bind_some,h1,Option.map_some,h2]
theorem po (w:World) (b:Bool) (ev:∀os,(mr pr (fQ w b) 11 (some (.ref 6)) 8000 (S0 (fQ w b) os) (topStub pr)).map (w9 (fQ w b))=some (u7 (fQ w b))) :
  (openEnds treeTable pr (fQ w b) 8000).map (fun s=>(openSeen qv looseN (importedModules pr.main.body) XtO true s,HK.obs s))=some (openGood qv looseN,HK.val (fQ w b)):=by
 refine xU fun os=>?_
 apply bc;intro ng
 obtain ⟨s,r,e1,e2,e3⟩:=qI (w:=fQ w b) (ev os)
 apply ng;clear ng
 exact ⟨s,m8 r e1,Prod.ext e2 e3⟩
theorem left:LeftO pr qv looseN XtO HK.obs HK.val 8000 true:=by
 refine byRow2 "special-get-raises" ?_ ?_
 ·intro w; exact po w false (ND w)
 ·intro w; exact po w true (No w)
set_option profiler false
theorem okOpen:(chainsOk qv && opensWell PySem.Challenge.rw_sq0063_01.row.prog && (frees PySem.Challenge.rw_sq0063_01.row.toRowW && PySem.Challenge.rw_sq0063_01.row.within.isEmpty))=true:=by
 have h1:chainsOk qv=true:=by kernel_rfl
 have h2:opensWell pr=true:=by kernel_rfl
 have h3:(frees PySem.Challenge.rw_sq0063_01.row.toRowW && PySem.Challenge.rw_sq0063_01.row.within.isEmpty)=true:=by decide +kernel
 show (chainsOk qv && opensWell pr && _)=true
 rw [h1,h2,h3]; rfl
end
structure Wd (w:World) (h:Heap):Prop where
 k:(K w.params).In h
 t:∃p loose mean mg mb,Top p loose mean mg mb h
theorem Wd.keeps {w:World} {h h':Heap} (W:Wd w h) (k:h.StaysIn h'):Wd w h':=⟨W.k.keeps k,let ⟨p,l,me,mg,mb,T⟩:=W.t; ⟨p,l,me,mg,mb,T.keeps k⟩⟩
structure Room (A:Around) (n:Nat):Prop where
 hd:A.handled=none
 dp:A.depth + 3 * n + 3 < recursionLimit
 un:A.units + 20 * n + 20 < cLine
inductive Lk:List (Str×Value)->Str->Value->Prop
 | here {x v r}:Lk ((x,v)::r) x v
 | there {x v y u r}:Lk r x v->(x == y)=false->Lk ((y,u)::r) x v
inductive Un:List (Str×Value)->Str->Prop
 | nil {x}:Un [] x
 | cons {x y u r}:Un r x->(x == y)=false->Un ((y,u)::r) x
noncomputable abbrev Gr:=Addr->Option Obj
inductive Ty
 | lst (vs:List Value)
 | tup (vs:List Value)
 | ns (fs:List (Str×Value))
 | inst (C dx:Addr)
 | cell (v:Option Value)
 | pl (vs:List Value)
def jO (o:Obj) (fs:List (Str×Value)):Prop:=∃es ep,o.data = .dict es ep/\StrKeys es/\(∀name,nsFind es name=fs.lookup name)/\es.size<=fs.length
def Ty.ok (o:Obj):Ty->Prop
 | .lst vs=>o.cls = .type "list"/\∃n,o.data = .seq vs.toArray n
 | .tup vs=>o.cls = .type "tuple"/\∃n,o.data = .seq vs.toArray n
 | .ns fs=>jO o fs
 | .inst C dx=>o=instObj C dx
 | .cell v=>o.data = .cell v
 | .pl vs=>∃n,o = { cls:=.type "list",data:=.seq vs.toArray n }
def At (G:Gr) (a:Addr) (t:Ty):Prop:=∃o,G a=some o/\t.ok o
theorem At.le {G G':Gr} {a:Addr} {t:Ty} (x:At G a t) (k:∀o,G a=some o->G' a=some o):At G' a t:=let ⟨o,e,y⟩:=x; ⟨o,k o e,y⟩
theorem At.lst {h:Heap} {a:Addr} {vs:List Value} (x:At h.get? a (.lst vs)):h.IsList a vs.toArray:=x
theorem At.lt {h:Heap} {a:Addr} {t:Ty} (x:At h.get? a t):a < h.objs.size:=let ⟨_,e,_⟩:=x; Heap.lt_size e
noncomputable abbrev Cs:=List (Addr×Ty)
structure Bd (w:World) (h₀:Heap) (ds:List Addr) (G:Gr) (L:Addr) (h:Heap) (ls:List (Str×Value)) (led:Cs):Prop where
 fr:Fr (hideAll h₀ ds) L h (fun x=>ls.lookup x)
 wd:Wd w (hideAll h₀ ds)
 kp:∀a o,G a=some o->h.get? a=some o
 fL:G L=none
 nw:∀p∈led,At h.get? p.1 p.2/\p.1≠L/\G p.1=none/\(p.1∈ds\/h₀.objs.size<=p.1)
 nd:(led.map (·.1)).Nodup
section
variable {w:World} {h₀ h h':Heap} {ds:List Addr} {G:Gr} {L:Addr} {ls:List (Str×Value)} {led:Cs}
inductive Pick:Cs->Addr->Ty->Cs->Prop
 | here {d t r}:Pick ((d,t)::r) d t r
 | there {d t p r r'}:Pick r d t r'->Pick (p::r) d t (p::r')
noncomputable def Gr.add (G:Gr) (h:Heap) (l:List Addr):Gr:=fun a=>if a∈l then h.get? a else G a
end
abbrev En (env:Env) (cn:Str) (cs:Scope) (L f:Addr) (cd:Value):Prop:=env=envOf cn cs L f cd
section
variable {w:World} {A:Around} {E:Value->Shared->Prop} {h:Heap} {gs:Array GenState} {dr:Drawn} {n:Nat} {os:OsState} {g:Heap} {ds:List Addr} {G:Gr} {L f:Addr} {env:Env} {cn:Str} {cs:Scope} {cd:Value} {ls:List (Str×Value)} {led:Cs}
theorem Do {i:Int} {k:Nat} {pos:Pos} {Q:Value->Shared->Prop} (q:∀t n',Q (.int i t) ⟨h,gs,dr,n',os⟩):wpAny (model pr w) A (eval (.Constant (.int i) k pos) env) Q E ⟨h,gs,dr,n,os⟩:=wpAny_Constant_int (q _ _)
theorem Ga {x:Str} {k:Nat} {pos:Pos} {Q:Value->Shared->Prop} (q:∀t n',Q (.str x t) ⟨h,gs,dr,n',os⟩):wpAny (model pr w) A (eval (.Constant (.str x) k pos) env) Q E ⟨h,gs,dr,n,os⟩:=Calls.Constant_str (q _ _)
section
variable {a b:Int} {t u:Tok} {Q:Value->Shared->Prop}
theorem CU (q:∀t n',Q (.int (a + b) t) ⟨h,gs,dr,n',os⟩):wpAny (model pr w) A (binaryOp .Add (.int a t) (.int b u)) Q E ⟨h,gs,dr,n,os⟩:=add_int (q _ _)
theorem CX (q:∀t n',Q (.int (a - b) t) ⟨h,gs,dr,n',os⟩):wpAny (model pr w) A (binaryOp .Sub (.int a t) (.int b u)) Q E ⟨h,gs,dr,n,os⟩:=sub_int (q _ _)
theorem Aw (q:∀t n',Q (.int (a + b) t) ⟨h,gs,dr,n',os⟩):wpAny (model pr w) A (inplaceOp .Add (.int a t) (.int b u)) Q E ⟨h,gs,dr,n,os⟩:=iadd_int (q _ _)
theorem Ea (hm:IntMulOk a b) (q:∀t n',Q (.int (a * b) t) ⟨h,gs,dr,n',os⟩):wpAny (model pr w) A (binaryOp .Mult (.int a t) (.int b u)) Q E ⟨h,gs,dr,n,os⟩:=mul_int (q _ _) hm
theorem Gb (hb:0 < b) (hp:b < 2 ^ 200) (q:∀t n',Q (.int (a / b) t) ⟨h,gs,dr,n',os⟩):wpAny (model pr w) A (binaryOp .FloorDiv (.int a t) (.int b u)) Q E ⟨h,gs,dr,n,os⟩:=by
 have e:a.fdiv b=a / b:=Int.fdiv_eq_ediv_of_nonneg _ (Int.le_of_lt hb)
 exact floordiv_int (by omega) (e▸q _ _) (.inl (PyProof.noPylong_of_log2 (Nat.lt_trans ((Nat.log2_lt (by omega)).mpr (show b.natAbs < 2 ^ 200 by omega)) (by decide))))
theorem zk (hb:0 < b) (q:∀t n',Q (.int (a % b) t) ⟨h,gs,dr,n',os⟩):wpAny (model pr w) A (binaryOp .Mod (.int a t) (.int b u)) Q E ⟨h,gs,dr,n,os⟩:=by
 have e:a.fmod b=a % b:=Int.fmod_eq_emod_of_nonneg _ (Int.le_of_lt hb)
 exact mod_int (by (first | lia | omega)) (e▸q _ _)
theorem FV (q:∀t n',Q (.int (-a) t) ⟨h,gs,dr,n',os⟩):wpAny (model pr w) A (unaryOp .USub (.int a t)) Q E ⟨h,gs,dr,n,os⟩:=neg_int (q _ _)
end
end
theorem Room.deeper {A:Around} {n:Nat} (R:Room A (n + 1)) (env:Env):Room (A.deeper env) n:=⟨R.hd,by have:=R.dp; show A.depth + 1 + 3 * n + 3 < _; (first | lia | omega),by have:=R.un; show A.units + 3 + 20 * n + 20 < _; (first | lia | omega)⟩
theorem Room.le {A:Around} {n m:Nat} (R:Room A n) (h:m<=n):Room A m:=⟨R.hd,by have:=R.dp; (first | lia | omega),by have:=R.un; (first | lia | omega)⟩
section
variable {w:World} {A:Around} {E:Value->Shared->Prop} {h:Heap} {gs:Array GenState} {dr:Drawn} {n:Nat} {os:OsState} {g:Heap} {ds:List Addr} {G:Gr} {L f:Addr} {env:Env} {cn:Str} {cs:Scope} {cd:Value} {ls:List (Str×Value)} {led:Cs}
theorem AR {a:Int} {t:Tok} {Q:Value->Shared->Prop} {s:Shared} (q:Q (.bool true) s):wpAny (model pr w) A (call (.builtin "isinstance") [.int a t,.type "int"]) Q E s :=
 call_isinstance_yes (typeIs_int _ _ _) meta_int sub_int_int q
theorem zS {a:Int} {t:Tok} {Q:Value->Shared->Prop} (q:∀n',Q (.bool false) ⟨h,gs,dr,n',os⟩):wpAny (model pr w) A (call (.builtin "isinstance") [.int a t,.type "bool"]) Q E ⟨h,gs,dr,n,os⟩:=by
 exact call_isinstance (isinstance_false_int (by decide +kernel) F.isi_meta_bool F.sub_int_bool) (q _)
theorem EZ {a:Int} {t:Tok} {Q:Value->Shared->Prop} (q:∀t n',Q (.int (if a < 0 then -a else a) t) ⟨h,gs,dr,n',os⟩):wpAny (model pr w) A (call (.builtin "abs") [.int a t]) Q E ⟨h,gs,dr,n,os⟩ :=
 call_abs_int fun zw zw=>q _ _
end
section
set_option backward.match.sparseCases false
inductive IE
 | v (i:Nat) | c (n:Int) | add (a b:IE) | sub (a b:IE) | mul (a b:IE) | div (a b:IE) | mod (a b:IE) | neg (a:IE) | abs (a:IE) | max (a b:IE) | fn (k:Nat) (a b c:IE)
inductive CE
 | lt (a b:IE) | le (a b:IE) | eq (a b:IE) | mulok (a b:IE) | ilen (b m:Nat)
 | isl (c a:Nat) (lo hi:Option IE) | icat (c a b:Nat) | iref (c a n:Nat) | last (b:Nat) (x:IE) | ieq (a b:Nat) | emp (b:Nat) | ln (b:Nat) (e:IE)
noncomputable def IE.hd:IE->List Int
 | .v i=>[0,i] | .c n=>[1,n] | .add _ _=>[2] | .sub _ _=>[3] | .mul _ _=>[4] | .div _ _=>[5] | .mod _ _=>[6] | .neg _=>[7] | .abs _=>[8] | .max _ _=>[9] | .fn k _ _ _=>[10,k]
noncomputable def IE.args:IE->List IE
 | .v _=>[] | .c _=>[] | .add x y=>[x,y] | .sub x y=>[x,y] | .mul x y=>[x,y] | .div x y=>[x,y] | .mod x y=>[x,y] | .max x y=>[x,y] | .neg x=>[x] | .abs x=>[x] | .fn _ x y z=>[x,y,z]
noncomputable def gI (h:List Int) (i:Nat):Int:=h.getD i 0
noncomputable def gE (l:List IE) (i:Nat):IE:=l.getD i (.v 0)
noncomputable def IE.of (h:List Int) (l:List IE):IE :=
 [.v (gI h 1).toNat,.c (gI h 1),.add (gE l 0) (gE l 1),.sub (gE l 0) (gE l 1),.mul (gE l 0) (gE l 1),.div (gE l 0) (gE l 1),.mod (gE l 0) (gE l 1),.neg (gE l 0),.abs (gE l 0),.max (gE l 0) (gE l 1),.fn (gI h 1).toNat (gE l 0) (gE l 1) (gE l 2)].getD (gI h 0).toNat (.v 0)
theorem IE.of_ok (a:IE):IE.of a.hd a.args=a:=by induction a using IE.casesOn <;> rfl
noncomputable def yp (f:IE->IE->Bool) (l m:List IE):Bool:=List.rec (motive:=fun zw=>List IE->Bool) (fun m=>m.isEmpty) (fun a zw ih m=>m.head?.any (f a) && ih m.tail) l m
theorem jI {f:IE->IE->Bool} (h:∀a b,f a b=true->a=b):∀l m,yp f l m=true->l=m:=by
 intro l
 induction l with
 | nil=>intro m e; induction m using List.casesOn with | nil=>rfl | cons a m=>exact nomatch e
 | cons a l ih=>intro m e; induction m using List.casesOn with | nil=>exact nomatch e | cons b m=>exact aa (h a b (Bool.and_eq_true_iff.mp e).1) (aa (ih m (Bool.and_eq_true_iff.mp e).2) rfl)
noncomputable def zL (n:Nat):IE->IE->Bool:=Nat.rec (fun zw zw=>false) (fun zw ih a b=>decide (a.hd=b.hd) && yp ih a.args b.args) n
theorem uo (n:Nat):∀a b,zL n a b=true->a=b:=by
 induction n with
 | zero=>intro a b e; exact nomatch e
 | succ n ih=>intro a b e; exact aa (Eq.symm a.of_ok) (aa (Eq.symm b.of_ok) (aa (of_decide_eq_true (Bool.and_eq_true_iff.mp e).1) (aa (jI ih _ _ (Bool.and_eq_true_iff.mp e).2) rfl)))
noncomputable def IE.same (a b:IE):Bool:=zL 99 a b
theorem IE.same_ok {a b:IE} (e:a.same b=true):a=b:=uo 99 a b e
noncomputable def CE.hd:CE->List Int
 | .lt _ _=>[0] | .le _ _=>[1] | .eq _ _=>[2] | .mulok _ _=>[3] | .ilen b m=>[4,b,m] | .isl c a lo hi=>[5,c,a,lo.elim 0 fun zw=>1,hi.elim 0 fun zw=>1] | .icat c a b=>[6,c,a,b] | .iref c a n=>[7,c,a,n] | .last b _=>[8,b] | .ieq a b=>[9,a,b] | .emp b=>[10,b] | .ln b _=>[11,b]
noncomputable def CE.args:CE->List IE
 | .lt x y=>[x,y] | .le x y=>[x,y] | .eq x y=>[x,y] | .mulok x y=>[x,y] | .isl _ _ lo hi=>[lo.getD (.v 0),hi.getD (.v 0)] | .last _ x=>[x] | .ln _ e=>[e] | _=>[]
noncomputable def oE (i:Int) (e:IE):Option IE:=if i=1 then some e else none
noncomputable def CE.of (h:List Int) (l:List IE):CE :=
 [.lt (gE l 0) (gE l 1),.le (gE l 0) (gE l 1),.eq (gE l 0) (gE l 1),.mulok (gE l 0) (gE l 1),.ilen (gI h 1).toNat (gI h 2).toNat,.isl (gI h 1).toNat (gI h 2).toNat (oE (gI h 3) (gE l 0)) (oE (gI h 4) (gE l 1)),.icat (gI h 1).toNat (gI h 2).toNat (gI h 3).toNat,.iref (gI h 1).toNat (gI h 2).toNat (gI h 3).toNat,.last (gI h 1).toNat (gE l 0),.ieq (gI h 1).toNat (gI h 2).toNat,.emp (gI h 1).toNat,.ln (gI h 1).toNat (gE l 0)].getD (gI h 0).toNat (.emp 0)
theorem CE.of_ok (a:CE):CE.of a.hd a.args=a:=by
 induction a with
 | isl c a lo hi=>cases lo <;> cases hi <;> rfl
 | _=>rfl
noncomputable def CE.same (a b:CE):Bool:=decide (a.hd=b.hd) && yp IE.same a.args b.args
theorem CE.same_ok {a b:CE} (e:a.same b=true):a=b:=by
 exact aa (Eq.symm a.of_ok) (aa (Eq.symm b.of_ok) (aa (of_decide_eq_true (Bool.and_eq_true_iff.mp e).1) (aa (jI (fun zw zw=>IE.same_ok) _ _ (Bool.and_eq_true_iff.mp e).2) rfl)))
inductive AV
 | none | bool (b:Bool) | int (e:IE) | str (s:Str) | loc (i:Nat) | glb (v:Value) | any
inductive AO
 | lst (vs:List AV) | tup (vs:List AV) | ns (fs:List (Str×AV)) | inst (C:Addr) (j:Nat) | opq (k:Nat) | lit (j i:Nat) | tit (j i:Nat) | dead
 | cell (v:Option AV) | il (b:Nat) (es:List IE) | raw (t:Ty) | fz (o:AO) | pl (vs:List AV) | rf (b:Nat) | dc (ps:List (Int×AV))
structure St where
 ls:List (Str×AV)
 cl:List (Str×Nat)
 ob:List AO
 pc:List (CE×Bool)
set_option genCtorIdx true in
inductive Fl | nx | rt (v:AV) | bk | ct
theorem AO.ns.inj {a b:List (Str×AV)} (e:AO.ns a=AO.ns b):a=b:=by cases e; rfl
theorem AV.bool.inj {a b:Bool} (e:AV.bool a=AV.bool b):a=b:=by cases e; rfl
theorem Fl.rt.inj {a b:AV} (e:Fl.rt a=Fl.rt b):a=b:=by cases e; rfl
inductive Tr
 | leaf (f:Fl) (s:St) | br (c:CE) (a b:Tr) | req (c:CE) (t:Tr) | fail
structure Rho where
 v:Nat->Int
 f:Nat->Int->Int->Int->Int
 l:Nat->List Int
noncomputable def IE.den (ρ:Rho):IE->Int
 | .v i=>ρ.v i | .c n=>n | .add a b=>a.den ρ + b.den ρ | .sub a b=>a.den ρ - b.den ρ | .mul a b=>a.den ρ * b.den ρ
 | .div a b=>a.den ρ / b.den ρ | .mod a b=>a.den ρ % b.den ρ | .neg a=>-(a.den ρ) | .abs a=>if a.den ρ < 0 then -(a.den ρ) else a.den ρ
 | .max a b=>Max.max (a.den ρ) (b.den ρ) | .fn k x y z=>ρ.f k (x.den ρ) (y.den ρ) (z.den ρ)
noncomputable def DB (l:List Int) (lo hi:Option Int):List Int:=((match hi with | some y=>l.take y.toNat | none=>l)).drop ((lo.getD 0).toNat)
def Gx (x:Option Int):Prop:=match x with | some y=>0<=y | none=>True
def CE.den (ρ:Rho):CE->Prop
 | .lt a b=>a.den ρ < b.den ρ | .le a b=>a.den ρ<=b.den ρ | .eq a b=>a.den ρ=b.den ρ | .mulok a b=>IntMulOk (a.den ρ) (b.den ρ) | .ilen b m=>(ρ.l b).length + m<=1000
 | .isl c a lo hi=>Gx (lo.map (IE.den ρ))/\Gx (hi.map (IE.den ρ))/\ρ.l c=DB (ρ.l a) (lo.map (IE.den ρ)) (hi.map (IE.den ρ))/\(ρ.l a).length<=1000
 | .icat c a b=>ρ.l c=ρ.l a++ρ.l b/\(ρ.l a).length<=1000/\(ρ.l b).length<=1000 | .iref c a n=>ρ.l c=ρ.l a++[(n:Int)]/\(ρ.l a).length<=1000 | .last b x=>(ρ.l b).getLast? = some (x.den ρ)/\(ρ.l b).length<=1000 | .ieq a b=>ρ.l a=ρ.l b | .emp b=>ρ.l b = [] | .ln b e=>((ρ.l b).length:Int)=e.den ρ/\(ρ.l b).length<=1000
def Tr.ok (ρ:Rho) (post:Fl->St->Prop):Tr->Prop
 | .leaf f s=>post f s
 | .br c a b=>(c.den ρ->a.ok ρ post)/\(¬c.den ρ->b.ok ρ post)
 | .req c t=>c.den ρ/\t.ok ρ post
 | .fail=>False
noncomputable def aS {α:Type} (o:Option α) (k:α->Tr):Tr:=match o with | some a=>k a | none=>.fail
noncomputable def bN (c:Bool) (t:Tr):Tr:=match c with | true=>t | false=>.fail
noncomputable def dg {α:Type} (o:Option α) (k:α->Tr) (t:Tr):Tr:=match o with | some a=>k a | none=>t
noncomputable def fP (c:Bool) (t e:Tr):Tr:=match c with | true=>t | false=>e
noncomputable def AV.i? : AV->Option IE | .int e=>some e | _=>Option.none
noncomputable def IE.c? : IE->Option Int | .c n=>some n | _=>none
noncomputable def AV.c? (v:AV):Option Int:=v.i?.bind IE.c?
noncomputable def AV.l? : AV->Option Nat | .loc i=>some i | _=>Option.none
noncomputable def AV.s? : AV->Option Str | .str x=>some x | _=>Option.none
noncomputable def AV.b? : AV->Option Bool | .bool x=>some x | _=>Option.none
noncomputable def AV.n? : AV->Bool | .none=>true | _=>false
noncomputable def AV.g? : AV->Option Value | .glb x=>some x | _=>Option.none
noncomputable def eS : Value->Option Addr | .ref a=>some a | _=>none
noncomputable def AO.tup? : AO->Option (List AV) | .tup vs=>some vs | _=>none
noncomputable def AO.lst? : AO->Option (List AV) | .lst vs=>some vs | _=>none
noncomputable def AO.pl? : AO->Option (List AV) | .pl vs=>some vs | _=>none
noncomputable def AO.rf? : AO->Option Nat | .rf b=>some b | _=>none
noncomputable def AO.il? : AO->Option (Nat×List IE) | .il b es=>some (b,es) | _=>none
noncomputable def AO.dc? : AO->Option (List (Int×AV)) | .dc ps=>some ps | _=>none
noncomputable def AO.ns? : AO->Option (List (Str×AV)) | .ns ps=>some ps | _=>none
noncomputable def AO.inst? : AO->Option (Addr×Nat) | .inst C j=>some (C,j) | _=>none
noncomputable def AO.cell? : AO->Option (Option AV) | .cell v=>some v | _=>none
noncomputable def AO.opq? : AO->Option Nat | .opq v=>some v | _=>none
noncomputable def AO.raw? : AO->Option Ty | .raw t=>some t | _=>none
noncomputable def AO.fz? : AO->Option AO | .fz o=>some o | _=>none
noncomputable def AO.it? : AO->Option (Bool×Nat×Nat) | .lit j i=>some (true,j,i) | .tit j i=>some (false,j,i) | _=>none
noncomputable def aZ {α:Type}:List α->Option α | []=>none | a::r=>match r with | []=>some a | _::_=>none
noncomputable def eA {α:Type}:List α->Option (α×α) | []=>none | a::r=>match r with | []=>none | b::r=>match r with | []=>some (a,b) | _::_=>none
noncomputable def aq {α β:Type} (a:Option α) (b:Option β):Option (α×β):=a.bind fun x=>b.map fun y=>(x,y)
noncomputable def IE.add' (a b:IE):IE:=match aq a.c? b.c? with | some p=>.c (p.1 + p.2) | none=>.add a b
noncomputable def IE.sub' (a b:IE):IE:=match aq a.c? b.c? with | some p=>.c (p.1 - p.2) | none=>.sub a b
noncomputable def IE.mul' (a b:IE):IE:=match aq a.c? b.c? with | some p=>.c (p.1 * p.2) | none=>.mul a b
noncomputable def IE.neg' (a:IE):IE:=match a.c? with | some a=>.c (-a) | none=>.neg a
noncomputable def IE.abs' (a:IE):IE:=match a.c? with | some a=>.c (if a < 0 then -a else a) | none=>.abs a
noncomputable def lR (a b:IE) (f:Int->Int->Bool) (t:Bool):Option Bool:=match aq a.c? b.c? with | some p=>some (f p.1 p.2) | none=>if a.same b=true then some t else none
noncomputable def CE.dec:CE->Option Bool
 | .lt a b=>lR a b (fun a b=>decide (a < b)) false
 | .le a b=>lR a b (fun a b=>decide (a<=b)) true
 | .eq a b=>lR a b (fun a b=>decide (a=b)) true
 | _=>none
noncomputable def AO.vw:AO->AO | .pl vs=>.lst vs | o=>o
noncomputable def AO.unf:AO->AO | .fz o=>o | o=>o
noncomputable def AO.view (o:AO):AO:=o.unf.vw
noncomputable def St.at (s:St) (i:Nat):Option AO:=(s.ob[i]?).map AO.view
noncomputable def zK (l:List (CE×Bool)) (c:CE):Option Bool:=(l.find? fun p=>c.same p.1).map (·.2)
theorem pt {l:List (CE×Bool)} {c:CE} {b:Bool} (e:zK l c=some b):(c,b)∈l:=by
 unfold zK at e
 induction q:l.find? fun p=>c.same p.1 with
 | none=>rw [q] at e; exact nomatch e
 | some p =>
  rw [q] at e
  have s:c=p.1:=CE.same_ok (List.find?_some (p:=fun p:CE×Bool=>c.same p.1) q)
  have t:p.2=b:=Option.some.inj e
  refine aa s (aa (Eq.symm t) ?_); exact List.mem_of_find?_eq_some q
noncomputable def St.ask (s:St) (c:CE) (k:Bool->St->Tr):Tr:=match c.dec with
 | some b=>k b s
 | none=>match zK s.pc c with
  | some b=>k b s
  | none=>.br c (k true { s with pc:=(c,true)::s.pc }) (k false { s with pc:=(c,false)::s.pc })
noncomputable def qG (c:CE) (t:Tr):Tr:=match c.dec with
 | some true=>t
 | _=>.req c t
noncomputable def small (e:IE):Bool:=match e.c? with | some n=>decide (n.natAbs < 2 ^ 60) | none=>false
noncomputable def uE (a b:IE) (t:Tr):Tr:=if small a || small b then t else .req (.mulok a b) t
structure Rc where
 E:Scope->Expr->St->(AV->St->Tr)->Tr
 T:Scope->Expr->St->(Bool->St->Tr)->Tr
 S:Scope->Stmt->St->(Fl->St->Tr)->Tr
 C:AV->List AV->St->(AV->St->Tr)->Tr
noncomputable def fV (v:AV) (k:AV->Tr):Tr:=match v with
 | .none=>k .none | .bool b=>k (.bool b) | .int e=>k (.int e) | .str s=>k (.str s) | .loc i=>k (.loc i) | .glb v=>k (.glb v) | .any=>k .any
noncomputable def DC:List AV->(List AV->Tr)->Tr
 | [],k=>k []
 | v::r,k=>fV v fun v=>DC r fun r=>k (v::r)
noncomputable def GD:List (Str×AV)->(List (Str×AV)->Tr)->Tr
 | [],k=>k []
 | (x,v)::r,k=>fV v fun v=>GD r fun r=>k ((x,v)::r)
noncomputable def fO (o:AO) (k:AO->Tr):Tr:=match o with
 | .lst vs=>DC vs fun vs=>k (.lst vs)
 | .pl vs=>DC vs fun vs=>k (.pl vs)
 | .tup vs=>DC vs fun vs=>k (.tup vs)
 | .ns fs=>GD fs fun fs=>k (.ns fs)
 | o=>k o
noncomputable def GZ:List AO->(List AO->Tr)->Tr
 | [],k=>k []
 | o::r,k=>fO o fun o=>GZ r fun r=>k (o::r)
noncomputable def MD (s:St) (k:St->Tr):Tr:=match s with
 | ⟨ls,cl,ob,pc⟩=>GD ls fun ls=>GZ ob fun ob=>k ⟨ls,cl,ob,pc⟩
set_option backward.match.sparseCases true in
noncomputable def aK:Expr->Bool | .Starred _ _=>true | _=>false
noncomputable def cu (e:Expr):Bool:=Nat.beq e.ctorIdx 26
noncomputable def JX (e:Expr):Bool:=Nat.beq e.ctorIdx 23
noncomputable def cr:Expr->Bool | .Call f args kw _=>JX f && args.isEmpty && kw.isEmpty | _=>false
noncomputable def cp (e:Expr):Bool:=Nat.beq e.ctorIdx 7
noncomputable def dH (e:Expr):Bool:=Nat.ble 8 e.ctorIdx && Nat.ble e.ctorIdx 10
noncomputable def mP (r:Rc) (sc:Scope):List Expr->St->(List AV->St->Tr)->Tr
 | [],s,k=>k [] s
 | e::es,s,k=>if aK e then .fail else r.E sc e s fun v s=>mP r sc es s fun vs s=>k (v::vs) s
noncomputable def qm (r:Rc) (sc:Scope):List Stmt->St->(Fl->St->Tr)->Tr
 | [],s,k=>k .nx s
 | b::bs,s,k=>r.S sc b s fun f s=>MD s fun s=>match f with | .nx=>qm r sc bs s k | _=>k f s
noncomputable def mk (o:AO) (s:St) (k:AV->St->Tr):Tr:=k (.loc s.ob.length) { s with ob:=s.ob++[o] }
noncomputable def EL (i j:Nat) (s:St) (k:AV->St->Tr):Tr :=
 dg (aq ((s.at i).bind AO.tup?) ((s.at j).bind AO.tup?)) (fun p=>bN (decide (p.1.length + p.2.length < 100)) (fP p.1.isEmpty (k (.loc j) s) (fP p.2.isEmpty (k (.loc i) s) (mk (.tup (p.1++p.2)) s k)))) <|
 aS (aq ((s.at i).bind AO.lst?) ((s.at j).bind AO.lst?)) fun p=>bN (decide (p.1.length + p.2.length < 100)) (mk (.pl (p.1++p.2)) s k)
noncomputable def uw (op:Operator) (a b:AV) (s:St) (k:AV->St->Tr):Tr:=match op with
 | .Add=>dg (aq a.i? b.i?) (fun p=>k (.int (p.1.add' p.2)) s) <| aS (aq a.l? b.l?) fun p=>EL p.1 p.2 s k
 | .Sub=>aS (aq a.i? b.i?) fun p=>k (.int (p.1.sub' p.2)) s
 | .Mult=>aS (aq a.i? b.i?) fun p=>uE p.1 p.2 (k (.int (p.1.mul' p.2)) s)
 | .FloorDiv=>aS (aq a.i? b.i?) fun p=>qG (.lt (.c 0) p.2) (qG (.lt p.2 (.c (2 ^ 200))) (k (.int (.div p.1 p.2)) s))
 | .Mod=>aS (aq a.i? b.i?) fun p=>qG (.lt (.c 0) p.2) (k (.int (.mod p.1 p.2)) s)
 | _=>.fail
noncomputable def Nh (a b:AV) (s:St) (k:Bool->St->Tr):Tr :=
 dg (aq a.i? b.i?) (fun p=>s.ask (.eq p.1 p.2) k) <| dg (aq a.s? b.s?) (fun p=>k (p.1 == p.2) s) <| aS (aq a.b? b.b?) fun p=>k (p.1 == p.2) s
noncomputable def Nf (a b:AV) (s:St) (k:Bool->St->Tr):Tr :=
 dg (aq a.i? b.i?) (fun p=>s.ask (.eq p.1 p.2) fun c=>k (!c)) <| aS (aq a.l? b.l?) fun p =>
  aS (aq ((s.at p.1).bind AO.opq?) ((s.at p.2).bind AO.lst?)) fun q=>bN q.2.isEmpty <| fP (q.1 == 1) (k true s) (bN (q.1 == 2) (fP (p.1 == p.2) .fail (k false s)))
noncomputable def GU (a b:AV):Option Bool:=match b with
 | .none=>(match a with | .none=>some true | .int _=>some false | .loc _=>some false | _=>Option.none)
 | _=>Option.none
noncomputable def gN (op:CmpOp) (a b:AV) (s:St) (k:Bool->St->Tr):Tr:=match op with
 | .Eq=>Nh a b s k
 | .NotEq=>Nf a b s k
 | .Lt=>aS (aq a.i? b.i?) fun p=>s.ask (.lt p.1 p.2) k
 | .LtE=>aS (aq a.i? b.i?) fun p=>s.ask (.le p.1 p.2) k
 | .Gt=>aS (aq a.i? b.i?) fun p=>s.ask (.lt p.2 p.1) k
 | .GtE=>aS (aq a.i? b.i?) fun p=>s.ask (.le p.2 p.1) k
 | .Is=>aS (GU a b) fun c=>k c s
 | .IsNot=>aS (GU a b) fun c=>k (!c) s
 | _=>.fail
noncomputable def pL (a:AV) (s:St) (k:Bool->St->Tr):Tr:=match a with
 | .none=>k false s
 | .bool b=>k b s
 | .int e=>s.ask (.eq e (.c 0)) fun c=>k (!c)
 | _=>.fail
noncomputable def jD:Value->AV
 | .none=>.none
 | .bool b=>.bool b
 | .int i _=>.int (.c i)
 | .str x _=>.str x
 | v=>.glb v
noncomputable def FY:List (Str×Value) :=
 [(Str.ofString "isinstance",Value.builtin "isinstance"),(Str.ofString "abs",.builtin "abs"),(Str.ofString "max",.builtin "max"),(Str.ofString "sum",.builtin "sum"),(Str.ofString "len",.builtin "len"),
  (Str.ofString "int",.type "int"),(Str.ofString "bool",.type "bool"),(Str.ofString "tuple",.type "tuple"),(Str.ofString "list",.type "list"),(Str.ofString "str",.type "str"),(Str.ofString "dict",.type "dict"),(Str.ofString "enumerate",.type "enumerate")]
noncomputable def blt (x:Str):Option Value:=FY.lookup x
noncomputable def sS (s:St) (x:Str):Option AV:=(((s.cl.lookup x).bind s.at).bind AO.cell?).bind id
noncomputable def yO (P:Params) (sc:Scope) (x:Str) (s:St) (k:AV->St->Tr):Tr :=
 fP (x == Str.ofString "__debug__" || x == Str.ofString "__name__") .fail <| aS (sc.names.lookup x) fun kd=>match kd with
 | .local=>aS (s.ls.lookup x) fun v=>k v s
 | .cell=>aS (sS s x) fun v=>k v s
 | .globalImplicit=>aS (nsIn (K P) mainGlobals x) fun g=>match g with
  | some v=>k (jD v) s
  | none=>aS (blt x) fun v=>k (.glb v) s
 | _=>.fail
noncomputable def St.put (s:St) (x:Str) (v:AV):St:={ s with ls:=(x,v)::s.ls }
noncomputable def bZ (sc:Scope) (x:Str) (v:AV) (s:St) (k:St->Tr):Tr:=aS (sc.names.lookup x) fun kd=>match kd with
 | .local=>k (s.put x v)
 | .cell=>aS (s.cl.lookup x) fun i=>aS ((s.ob[i]?).bind AO.cell?) fun zw=>k { s with ob:=s.ob.set i (.cell (some v)) }
 | _=>.fail
noncomputable def dX (P:Params) (C:Addr):Bool :=
 (findIn (K P) (.ref C) (Str.ofString "__getattribute__") == some (some (.builtin "object.__getattribute__"))) && (findIn (K P) (.ref C) (Str.ofString "__getattr__") == some none) &&
 (findIn (K P) (.ref C) (Str.ofString "__setattr__") == some (some (.builtin "object.__setattr__"))) && plainOver (K P) C && (clsIn (K P) C).any (·.hasDict)
noncomputable def xI (s:St) (i:Nat):Option (Addr×Nat×List (Str×AV)):=((s.at i).bind AO.inst?).bind fun q=>((s.at q.2).bind AO.ns?).map fun fs=>(q.1,q.2,fs)
noncomputable def AV.told:AV->Bool | .glb _=>false | .any=>false | _=>true
noncomputable def zN : Value->Option (Int×Tok) | .int n t=>some (n,t) | _=>none
noncomputable def oA (P:Params) (a:AV) (name:Str) (s:St) (k:AV->St->Tr):Tr :=
 aS a.l? fun i=>aS (xI s i) fun q=>bN (dX P q.1) <| aS (findIn (K P) (.ref q.1) name) fun f=>match f with
 | none=>aS (q.2.2.lookup name) fun v=>bN v.told (k v s)
 | some u=>aS (zN u) fun z=>bN ((q.2.2.lookup name).isNone && (specialIn (K P) (.int z.1 z.2) (Str.ofString "__get__") == some none) && !copiedNames.contains name) (k (.int (.c z.1)) s)
noncomputable def rg {β:Type} (fs:List (Str×β)) (name:Str) (v:β):List (Str×β):=if (fs.lookup name).isSome=true then fs.map (fun p=>if p.1 == name then (p.1,v) else p) else (name,v)::fs
noncomputable def f7 (P:Params) (a:AV) (name:Str) (v:AV) (s:St) (k:St->Tr):Tr :=
 aS a.l? fun i=>aS (xI s i) fun q=>aS ((s.ob[q.2.1]?).bind AO.ns?) fun fs =>
  bN (dX P q.1 && (takerIn (K P) q.1 name == some none) && decide (fs.length < 500)) (k { s with ob:=s.ob.set q.2.1 (.ns (rg fs name v)) })
noncomputable def qc (e:IE) (k:Nat->St->Tr):Nat->St->Tr
 | 0,_=>.fail
 | m + 1,s=>s.ask (.eq e (.c m)) fun b s=>if b then k m s else qc e k m s
noncomputable def kZ (a i:AV) (s:St) (k:AV->St->Tr):Tr:=aS a.l? fun j=>aS i.i? fun e =>
 dg e.c? (fun n=>bN (decide (n.natAbs < 2 ^ 60)) <|
  dg ((s.at j).bind AO.lst?) (fun vs=>aS (seqIndex? n vs.length) fun m=>aS vs[m]? fun v=>k v s) <|
  aS ((s.at j).bind AO.tup?) fun vs=>aS (seqIndex? n vs.length) fun m=>aS vs[m]? fun v=>k v s) <|
 aS ((s.at j).bind AO.lst?) fun vs=>bN (decide (vs.length < 100)) (qc e (fun m s=>aS vs[m]? fun v=>k v s) vs.length s)
noncomputable def AO.mut? : AO->Option (List AV) | .lst vs=>some vs | .pl vs=>some vs | _=>none
noncomputable def f8 (a i v:AV) (s:St) (k:St->Tr):Tr:=aS a.l? fun j=>aS i.i? fun e=>aS ((s.ob[j]?).bind AO.mut?) fun vs =>
 bN (decide (vs.length < 100)) (qc e (fun m s=>k { s with ob:=s.ob.set j (.lst (vs.set m v)) }) vs.length s)
noncomputable def td (op:Operator) (a b:AV) (s:St) (k:AV->St->Tr):Tr:=match op with
 | .Add=>aS (aq a.i? b.i?) fun p=>k (.int (p.1.add' p.2)) s
 | _=>.fail
noncomputable def ae (l:List (Str×NameKind)):List Str:=l.filterMap fun x=>if x.2 = .cell then some x.1 else none
structure FnI where
 params:Arguments
 body:List Stmt
 scope:Scope
 dfl:List AV
noncomputable def mZ (o:Obj):Option FuncData:=match o.data with | .func fd=>some fd | _=>none
noncomputable def jX (o:Obj):Option (List Value):=match o.data with | .seq vs _=>some vs.toList | _=>none
noncomputable def ox : FuncBody->Option (List Stmt) | .stmts b=>some b | _=>none
noncomputable def sj (P:Params):Value->Option (List AV)
 | .none=>some []
 | .ref d=>(((K P).lookup d).bind jX).map fun vs=>vs.map jD
 | _=>none
noncomputable def dN (P:Params) (f:Addr):Option FnI:=(((K P).lookup f).bind mZ).bind fun fd=>(ox fd.body).bind fun body =>
 if fd.globals == mainGlobals && fd.closure.isEmpty && fd.builtins == builtinsNs && codeIn (K P) fd.code fd.qualname && !fd.scope.isCoroutine && !fd.scope.isGenerator && fd.scope.kind == .function &&
   decide ((ae fd.scope.names).Nodup) && fd.params.posonlyargs.isEmpty && fd.params.vararg.isNone && fd.params.kwonlyargs.isEmpty && fd.params.kwarg.isNone then
  (sj P fd.defaults).map fun ds=>⟨fd.params,body,fd.scope,ds⟩
 else none
noncomputable def iJ {β:Type} (sl:List (Str×β)) (x:Str×β):List (Str×β):=if (sl.lookup x.1).isNone=true then sl++[(x.1,x.2)] else sl
noncomputable def pi {β:Type} (names:List Str) (vs dfl:List β):Option (List (Str×β)) :=
 if decide (vs.length<=names.length) && decide (dfl.length<=names.length) && ((names.take (names.length - dfl.length)).filter fun n=>((names.zip vs).lookup n).isNone).isEmpty then
  some (names.filterMap fun n=>((((names.drop (names.length - dfl.length)).zip dfl).foldl iJ (names.zip vs)).lookup n).map (n,·))
 else none
noncomputable def aP (fi:FnI) (vs:List AV):Option (List (Str×AV)):=match pi (fi.params.args.map (·.arg)) vs fi.dfl with
 | some ls=>if ls.all (fun x=>decide (fi.scope.names.lookup x.1=some .local) || (decide (fi.scope.names.lookup x.1=some .cell) && ((cellsFrom 0 fi.scope.names []).lookup x.1).isSome)) && (ae fi.scope.names).all (fun n=>decide (fi.scope.names.lookup n=some .cell) && ((cellsFrom 0 fi.scope.names []).lookup n).isSome) then some ls else none
 | none=>none
noncomputable def Fd (P:Params) (n:Nat):Value->Bool
 | .ref a=>keepIn (K P) (.ref a)
 | .builtin _=>decide (n≠0)
 | .type _=>decide (n≠0)
 | _=>false
noncomputable def mH (P:Params) (n:Nat) (f:AV):Bool:=match f.g? with | some v=>Fd P n v | none=>false
noncomputable abbrev Hk:=Addr->List AV->List AO->Option (List CE×AV×List AO)
noncomputable def sQ:List CE->Tr->Tr
 | [],t=>t
 | c::cs,t=>qG c (sQ cs t)
noncomputable def yk (P:Params) (r:Rc) (a:Addr) (args:List AV) (s:St) (k:AV->St->Tr):Tr:=match dN P a with
 | some fi=>(match aP fi args with
  | some ls=>qm r fi.scope fi.body { s with ls:=ls.reverse.filter (fun x=>decide (fi.scope.names.lookup x.1=some .local)),cl:=(ae fi.scope.names).zip ((List.range (ae fi.scope.names).length).map (s.ob.length + ·)),ob:=s.ob++(ae fi.scope.names).map (fun n=>.cell (ls.reverse.lookup n)) } fun f s'=>(match f with | .rt v=>k v { s' with ls:=s.ls,cl:=s.cl } | .nx=>k .none { s' with ls:=s.ls,cl:=s.cl } | _=>.fail)
  | none=>.fail)
 | none=>.fail
noncomputable def wq (o:Obj):Bool:=match o.data with | .cls _=>true | _=>false
noncomputable def EW (P:Params) (a:Addr):Bool:=((K P).lookup a).any wq
noncomputable def zG (P:Params) (r:Rc) (a:Addr) (args:List AV) (s:St) (k:AV->St->Tr):Tr :=
 bN (makesIn (K P) a) <| aS (((findIn (K P) (.ref a) (Str.ofString "__init__")).bind id).bind eS) fun fI=>bN (typeIn (K P) (.ref fI) == some (.type "function")) <|
  yk P r fI (.loc (s.ob.length + 1)::args) { s with ob:=s.ob++[.ns [],.inst a s.ob.length] } fun v s'=>(match v with | .none=>k (.loc (s.ob.length + 1)) s' | _=>.fail)
noncomputable def gC:List AV->Option (List IE)
 | []=>some []
 | v::r=>v.i?.bind fun e=>(gC r).map (e :: ·)
noncomputable def wG:List IE->IE
 | []=>.c 0
 | [e]=>e
 | e::r=>.add e (wG r)
noncomputable def kR (e:IE):List IE->IE
 | []=>e
 | e'::r=>.max e (kR e' r)
noncomputable def lstAt (s:St) (v:AV):Option (List AV):=(v.l?.bind s.at).bind AO.lst?
noncomputable def tupAt (s:St) (v:AV):Option (List AV):=(v.l?.bind s.at).bind AO.tup?
noncomputable def Dm (nm:String) (args:List AV) (s:St) (k:AV->St->Tr):Tr :=
 fP (nm == "isinstance") (aS (eA args) fun p=>aS (aq p.1.i? p.2.g?) fun q=>fP (q.2 == .type "int") (k (.bool true) s) (bN (q.2 == .type "bool") (k (.bool false) s))) <|
 fP (nm == "abs") (aS ((aZ args).bind AV.i?) fun e=>k (.int e.abs') s) <|
 fP (nm == "max") (dg (eA args) (fun p=>aS (aq p.1.i? p.2.i?) fun q=>k (.int (.max q.1 q.2)) s) <| aS (((aZ args).bind (lstAt s)).bind gC) fun es=>match es with | e::es=>k (.int (kR e es)) s | []=>.fail) <|
 fP (nm == "sum") (aS (((aZ args).bind (lstAt s)).bind gC) fun es=>k (.int (wG es)) s) <|
 bN (nm == "len") (aS (aZ args) fun a=>dg (lstAt s a) (fun vs=>bN (decide (vs.length < 100)) (k (.int (.c vs.length)) s)) <| aS (tupAt s a) fun vs=>bN (decide (vs.length < 100)) (k (.int (.c vs.length)) s))
noncomputable def jq (P:Params) (hk:Hk) (r:Rc) (f:AV) (args:List AV) (s:St) (k:AV->St->Tr):Tr:=aS f.g? fun v=>match v with
 | .ref a=>dg (hk a args s.ob) (fun q=>sQ q.1 (k q.2.1 { s with ob:=q.2.2 })) (fP (EW P a) (zG P r a args s k) (yk P r a args s k))
 | .builtin nm=>Dm nm args s k
 | .type nm=>bN (nm == "tuple") (aS ((aZ args).bind (lstAt s)) fun vs=>bN (decide (vs.length < 100)) (mk (.tup vs) s k))
 | _=>.fail
noncomputable def oh (i:Nat) (vs:List AV) (s:St) (k:AV->St->Tr):Tr:=aS (aq (s.ob[i]?) (aZ vs)) fun q =>
 dg q.1.pl? (fun us=>bN (decide (us.length < 100)) (k .none { s with ob:=s.ob.set i (.pl (us++[q.2])) })) <|
 aS (aq q.1.il? q.2.i?) fun z=>.req (.ilen z.1.1 z.1.2.length) (k .none { s with ob:=s.ob.set i (.il z.1.1 (z.1.2++[z.2])) })
noncomputable def eJ (cl:List (Str×Nat)):List (Str×NameKind)->List (Str×Nat)->Option (List (Str×Nat))
 | [],acc=>some acc
 | (n,k)::r,acc=>if k == .free then (match cl.lookup n with | some i=>eJ cl r ((n,i)::acc) | none=>none) else eJ cl r acc
noncomputable def bL (csc sc:Scope):Scope:={ csc with names:=csc.names.map fun (n,k)=>if (k == .free && sc.kind == .function && sc.names.lookup n == some .cell) then (n,.cell) else (n,k) }
noncomputable def c9 (csc:Scope) (x:Str):Bool :=
 csc.names.all (fun y=>decide (y.2≠.cell)) && csc.kind == .function && csc.names.all (fun y=>!(y.2 == .local) || decide (csc.names.lookup y.1=some .local)) && decide (csc.names.lookup x=some .local)
noncomputable def FJ (r:Rc) (sc:Scope) (x:Str) (elt:Expr) (acc:Nat) (v:AV) (s:St) (k:St->Tr):Tr :=
 bZ sc x v s fun s=>r.E sc elt s fun y s=>aS ((s.ob[acc]?).bind AO.lst?) fun ys=>bN (decide (ys.length < 100)) (k { s with ob:=s.ob.set acc (.lst (ys++[y])) })
noncomputable def Aj (l:Bool) (j i:Nat):AO:=match l with | true=>.lit j i | false=>.tit j i
noncomputable def Nr (l:Bool) (o:AO):Option (List AV):=match l with | true=>o.lst? | false=>o.tup?
noncomputable def mS (s:St) (m:Nat):Option (Option AV×AO):=((s.ob[m]?).bind AO.it?).bind fun q=>((s.at q.2.1).bind (Nr q.1)).map fun vs=>(vs[q.2.2]?,Aj q.1 q.2.1 (q.2.2 + 1))
noncomputable def lT (r:Rc) (sc:Scope) (x:Str) (elt:Expr) (m acc:Nat) (k:St->Tr):Nat->St->Tr
 | 0,_=>.fail
 | n + 1,s=>aS (mS s m) fun q=>match q.1 with
  | some v=>FJ r sc x elt acc v { s with ob:=s.ob.set m q.2 } (lT r sc x elt m acc k n)
  | none=>k { s with ob:=s.ob.set m .dead }
noncomputable def BR (v:AV) (s:St):Option AO:=orO (lstAt s v) (tupAt s v) v.l?
where orO (a b:Option (List AV)) (l:Option Nat):Option AO:=l.bind fun j=>match a with | some _=>some (Aj true j 0) | none=>b.map fun zw=>Aj false j 0
noncomputable def oQ : Expr->Option (Expr×Str×Pos) | .Attribute o n p=>some (o,n,p) | _=>none
noncomputable def iL : Expr->Option Str | .Name x _=>some x | _=>none
noncomputable def yN : Expr->Option Expr | .Slice a b c _=>(match a with | none=>(match c with | none=>b | some _=>none) | some _=>none) | _=>none
noncomputable def zo (gs:List Comprehension):Option (Str×Expr):=match gs with
 | []=>none
 | g::r=>(match r with | []=>if g.ifs.isEmpty && g.is_async == 0 then (iL g.target).map fun x=>(x,g.iter) else none | _::_=>none)
noncomputable def Ne (op:UnaryOp) (x:AV) (s:St) (k:AV->St->Tr):Tr:=match op with
 | .USub=>aS x.i? fun e=>k (.int e.neg') s
 | .Not=>pL x s fun b s=>k (.bool (!b)) s
 | _=>.fail
noncomputable def Am (c:Const) (s:St) (k:AV->St->Tr):Tr:=match c with
 | .none=>k .none s
 | .bool b=>k (.bool b) s
 | .int i=>k (.int (.c i)) s
 | .str x=>k (.str x) s
 | _=>.fail
noncomputable def zq (r:Rc) (sc:Scope) (op:BoolOp) (vs:List Expr) (p:Pos) (s:St) (k:AV->St->Tr):Tr:=match vs with
 | []=>.fail
 | a::rest=>(match rest with
  | []=>r.E sc a s k
  | b::rest=>r.E sc a s fun x s=>pL x s fun c s=>(match op with | .And=>fP c (r.E sc (.BoolOp .And (b::rest) p) s k) (k x s) | .Or=>fP c (k x s) (r.E sc (.BoolOp .Or (b::rest) p) s k)))
noncomputable def rU (r:Rc) (sc:Scope) (a:Expr) (ops:List CmpOp) (cs:List Expr) (s:St) (k:AV->St->Tr):Tr :=
 dg (aq (aZ ops) (aZ cs)) (fun q=>fP (behindInMarks q.1 q.2) .fail <| r.E sc a s fun x s=>r.E sc q.2 s fun y s=>gN q.1 x y s fun c s=>k (.bool c) s) <|
 aS (aq (eA ops) (eA cs)) fun q=>fP (lastMarks [q.1.1,q.1.2] [q.2.1,q.2.2]) .fail <| r.E sc a s fun x s=>r.E sc q.2.1 s fun y s=>gN q.1.1 x y s fun t s =>
  fP t (r.E sc q.2.2 s fun z s=>gN q.1.2 y z s fun t s=>k (.bool t) s) (k (.bool false) s)
noncomputable def zC (P:Params) (r:Rc) (sc:Scope) (o:Expr) (name:Str) (apos:Pos) (args:List Expr) (pos:Pos) (s:St) (k:AV->St->Tr):Tr :=
 bN (apos.endLine == pos.line && decide (args.length < 20) && !cr o && args.all (fun e=>!aK e)) <| r.E sc o s fun ov s=>aS ov.l? fun i =>
  dg (xI s i) (fun q=>bN (dX P q.1 && (q.2.2.lookup name).isNone) <| aS (((findIn (K P) (.ref q.1) name).bind id).bind eS) fun f =>
   bN (typeIn (K P) (.ref f) == some (.type "function") && keepIn (K P) (.ref f)) <| mP r sc args s fun vs s=>r.C (.glb (.ref f)) (.loc i::vs) s k) <|
  bN (name == Str.ofString "append" && decide (args.length=1) && (s.ob[i]?).any fun o=>o.pl?.isSome || o.il?.isSome) <| mP r sc args s fun vs s=>oh i vs s k
noncomputable def uF (P:Params) (r:Rc) (sc:Scope) (f:Expr) (args:List Expr) (s:St) (k:AV->St->Tr):Tr :=
 bN (decide (args.length < 20) && args.all (fun e=>!aK e)) <| r.E sc f s fun fv s=>bN (mH P args.length fv) <| mP r sc args s fun vs s=>r.C fv vs s k
noncomputable def zp (ov uv:AV) (s:St) (k:AV->St->Tr):Tr:=aS (aq (lstAt s ov) uv.i?) fun q =>
 bN (decide (q.1.length < 100)) (qc q.2 (fun m s=>mk (.lst (q.1.take m)) s k) (q.1.length + 1) s)
noncomputable def Mn (r:Rc) (sc:Scope) (elt:Expr) (x:Str) (iter:Expr) (csc:Scope) (s:St) (k:AV->St->Tr):Tr :=
 bN (!cp iter && c9 csc x) <| aS (eJ s.cl csc.names []) fun cl=>r.E sc iter s fun v s=>aS (BR v s) fun io =>
  lT r (bL csc sc) x elt s.ob.length (s.ob.length + 1) (fun s'=>k (.loc (s.ob.length + 1)) { s' with ls:=s.ls,cl:=s.cl }) 40 ⟨[],cl,s.ob++[io]++[.lst []],s.pc⟩
noncomputable def nY (P:Params) (r:Rc) (sc:Scope) (e:Expr) (s:St) (k:AV->St->Tr):Tr:=match e with
 | .Constant c _ _=>Am c s k
 | .Name x _=>yO P sc x s k
 | .BinOp a op b _=>r.E sc a s fun x s=>r.E sc b s fun y s=>uw op x y s k
 | .UnaryOp op a _=>r.E sc a s fun x s=>Ne op x s k
 | .BoolOp op vs p=>zq r sc op vs p s k
 | .Compare a ops cs _=>rU r sc a ops cs s k
 | .IfExp t a b _=>r.T sc t s fun c s=>fP c (r.E sc a s k) (r.E sc b s k)
 | .Call f args kw pos=>bN kw.isEmpty <| dg (oQ f) (fun q=>zC P r sc q.1 q.2.1 q.2.2 args pos s k) (uF P r sc f args s k)
 | .Attribute o name _=>bN (!cr o) <| r.E sc o s fun ov s=>oA P ov name s k
 | .Subscript o i _=>dg (yN i) (fun u=>r.E sc o s fun ov s=>r.E sc u s fun uv s=>zp ov uv s k) <| bN (!cu i) <| r.E sc o s fun ov s=>r.E sc i s fun iv s=>kZ ov iv s k
 | .ListComp elt gs csc _=>aS (zo gs) fun g=>Mn r sc elt g.1 g.2 csc s k
 | .Tuple elts _ _=>bN (decide (elts.length < 100)) <| mP r sc elts s fun vs s=>mk (.tup vs) s k
 | .List elts _=>bN (decide (elts.length < 100)) <| mP r sc elts s fun vs s=>mk (.pl vs) s k
 | _=>.fail
noncomputable def eH (e:Expr):Bool:=Nat.beq e.ctorIdx 23 || Nat.beq e.ctorIdx 16 || Nat.beq e.ctorIdx 20
noncomputable def EP (r:Rc) (sc:Scope) (op:BoolOp) (vs:List Expr) (p:Pos) (s:St) (k:Bool->St->Tr):Tr:=match op with
 | .And=>(match vs with | []=>k true s | a::rest=>r.T sc a s fun c s=>fP c (r.T sc (.BoolOp .And rest p) s k) (k false s))
 | .Or=>(match vs with | []=>k false s | a::rest=>r.T sc a s fun c s=>fP c (k true s) (r.T sc (.BoolOp .Or rest p) s k))
noncomputable def BP (r:Rc) (sc:Scope) (a:Expr) (ops:List CmpOp) (cs:List Expr) (s:St) (k:Bool->St->Tr):Tr :=
 dg (aq (aZ ops) (aZ cs)) (fun q=>fP (behindInMarks q.1 q.2) .fail <| r.E sc a s fun x s=>r.E sc q.2 s fun y s=>gN q.1 x y s k) <|
 aS (aq (eA ops) (eA cs)) fun q=>fP (lastMarks [q.1.1,q.1.2] [q.2.1,q.2.2]) .fail <| r.E sc a s fun x s=>r.E sc q.2.1 s fun y s=>gN q.1.1 x y s fun t s =>
  fP t (r.E sc q.2.2 s fun z s=>gN q.1.2 y z s k) (k false s)
noncomputable def stepT (r:Rc) (sc:Scope) (e:Expr) (s:St) (k:Bool->St->Tr):Tr:=match e with
 | .BoolOp op vs p=>EP r sc op vs p s k
 | .UnaryOp op a _=>(match op with | .Not=>r.T sc a s fun c s=>k (!c) s | _=>.fail)
 | .Compare a ops cs _=>BP r sc a ops cs s k
 | e=>bN (eH e) (r.E sc e s fun v s=>pL v s k)
noncomputable def hP (e:Expr):Bool:=Nat.beq e.ctorIdx 19
noncomputable def tup? : Expr->Option (List Expr) | .Tuple es _ _=>some es | _=>none
noncomputable def iA (e:Expr):Bool:=match tup? e with | some es=>!(es.all hP) | none=>false
noncomputable def pC (e:Expr):Bool:=Nat.beq e.ctorIdx 16
noncomputable def cM (e:Expr):Bool:=Nat.beq e.ctorIdx 23 || Nat.beq e.ctorIdx 20
noncomputable def xD (P:Params) (r:Rc) (sc:Scope) (e:Expr) (v:AV) (s:St) (k:St->Tr):Tr:=match e with
 | .Name x _=>bZ sc x v s k
 | .Attribute o name _=>r.E sc o s fun ov s=>f7 P ov name v s k
 | _=>.fail
noncomputable def dD (P:Params) (r:Rc) (sc:Scope):List Expr->List AV->St->(St->Tr)->Tr
 | [],vs,s,k=>bN vs.isEmpty (k s)
 | e::es,vs,s,k=>(match vs with | []=>.fail | v::vs=>xD P r sc e v s fun s=>dD P r sc es vs s k)
noncomputable def lZ (r:Rc) (sc:Scope) (x:Str) (body:List Stmt) (m:Nat) (k:Fl->St->Tr):Nat->St->Tr
 | 0,_=>.fail
 | n + 1,s=>aS (mS s m) fun q=>match q.1 with
  | some v=>bZ sc x v { s with ob:=s.ob.set m q.2 } fun s=>qm r sc body s fun f s=>(match f with | .nx | .ct=>lZ r sc x body m k n s | .bk=>k .nx s | .rt v=>k (.rt v) s)
  | none=>k .nx { s with ob:=s.ob.set m .dead }
noncomputable def DU (P:Params) (r:Rc) (sc:Scope) (t:Expr) (e:Expr) (s:St) (k:St->Tr):Tr:=match t with
 | .Name x _=>r.E sc e s fun v s=>bZ sc x v s k
 | .Attribute o name _=>r.E sc e s fun v s=>r.E sc o s fun ov s=>f7 P ov name v s k
 | .Tuple elts _ _=>bN (!iA e) <| r.E sc e s fun v s=>aS (tupAt s v) fun vs=>bN (decide (vs.length=elts.length) && elts.all cM) (dD P r sc elts vs s k)
 | .Subscript o i _=>r.E sc e s fun v s=>r.E sc o s fun ov s=>r.E sc i s fun iv s=>f8 ov iv v s k
 | _=>.fail
noncomputable def Ed (P:Params) (r:Rc) (sc:Scope) (t:Expr) (op:Operator) (e:Expr) (s:St) (k:St->Tr):Tr:=match t with
 | .Attribute o name _=>r.E sc o s fun ov s=>oA P ov name s fun old s=>r.E sc e s fun v s=>td op old v s fun new s=>f7 P ov name new s k
 | .Subscript o i _=>bN (!cu i) <| r.E sc o s fun ov s=>r.E sc i s fun iv s=>kZ ov iv s fun old s=>r.E sc e s fun v s=>td op old v s fun new s=>f8 ov iv new s k
 | _=>.fail
noncomputable def DK (r:Rc) (sc:Scope) (x:Str) (it:Expr) (body:List Stmt) (s:St) (k:Fl->St->Tr):Tr:=bN (!cp it) <| r.E sc it s fun v s=>aS (BR v s) fun io=>lZ r sc x body s.ob.length k 40 { s with ob:=s.ob++[io] }
noncomputable def iH (P:Params) (r:Rc) (sc:Scope) (b:Stmt) (s:St) (k:Fl->St->Tr):Tr:=match b with
 | .Return e _=>(match e with | some e=>r.E sc e s fun v s=>k (.rt v) s | none=>k (.rt .none) s)
 | .If t a b _=>r.T sc t s fun c s=>fP c (qm r sc a s k) (qm r sc b s k)
 | .Assign ts e _=>bN (!dH e) <| aS (aZ ts) fun t=>DU P r sc t e s fun s=>k .nx s
 | .For t it body els _=>bN els.isEmpty <| aS (iL t) fun x=>DK r sc x it body s k
 | .AugAssign t op e _=>Ed P r sc t op e s fun s=>k .nx s
 | .Expr e _=>bN (pC e) (r.E sc e s fun zw s=>k .nx s)
 | .Pass _=>k .nx s
 | .Continue _=>k .ct s
 | _=>.fail
noncomputable def nil:Rc:=⟨fun zw zw zw zw=>.fail,fun zw zw zw zw=>.fail,fun zw zw zw zw=>.fail,fun zw zw zw zw=>.fail⟩
noncomputable def Kj (P:Params) (hk:Hk) (r:Rc):Rc:=⟨nY P r,stepT r,iH P r,jq P hk r⟩
noncomputable def run (P:Params) (hk:Hk):Nat->Rc
 | 0=>nil
 | n + 1=>Kj P hk (run P hk n)
noncomputable def aA:Hk:=fun zw zw zw=>none
noncomputable def sx (P:Params) (hk:Hk) (n:Nat) (f:Addr) (args:List AV) (ob:List AO):Tr:=(run P hk n).C (.glb (.ref f)) args ⟨[],[],ob,[]⟩ fun v s=>.leaf (.rt v) ⟨[],[],s.ob,[]⟩
noncomputable def zX (P:Params) (hk:Hk) (n:Nat) (sc:Scope) (bs:List Stmt) (s:St):Tr:=qm (run P hk n) sc bs s fun f s=>.leaf f { s with pc:=[] }
end
section
variable {ρ:Rho} {post:Fl->St->Prop}
theorem af {α:Type} {o:Option α} {k:α->Tr} (y:(aS o k).ok ρ post):∃a,o=some a/\(k a).ok ρ post:=by
 induction o with | none=>exact y.elim | some a=>exact ⟨a,rfl,y⟩
theorem aj {c:Bool} {t:Tr} (y:(bN c t).ok ρ post):c=true/\t.ok ρ post:=by
 induction c with | true=>exact ⟨rfl,y⟩ | false=>exact y.elim
theorem cG {α:Type} {o:Option α} {k:α->Tr} {t:Tr} (y:(dg o k t).ok ρ post):(∃a,o=some a/\(k a).ok ρ post)\/o=none/\t.ok ρ post:=by
 induction o with | none=>exact .inr ⟨rfl,y⟩ | some a=>exact .inl ⟨a,rfl,y⟩
theorem aU {α:Type} {o:Option α} {k:α->Tr} {t:Tr} (y:(dg o k t).ok ρ post):(∃a,o=some a/\(k a).ok ρ post)\/t.ok ρ post:=by
 induction o with | none=>exact .inr y | some a=>exact .inl ⟨a,rfl,y⟩
theorem cF {c:Bool} {t e:Tr} (y:(fP c t e).ok ρ post):(c=true/\t.ok ρ post)\/(c=false/\e.ok ρ post):=by
 induction c with | true=>exact .inl ⟨rfl,y⟩ | false=>exact .inr ⟨rfl,y⟩
end
theorem ah {α β:Type} {a:Option α} {b:Option β} {p:α×β} (e:aq a b=some p):a=some p.1/\b=some p.2:=by
 induction a with
 | none=>exact ap e
 | some x=>induction b with | none=>exact ap e | some z=>exact aG e▸⟨rfl,rfl⟩
theorem cO {v:AV} {e:IE} (h:v.i? = some e):v = .int e:=by induction v using AV.casesOn <;> first | exact congrArg AV.int (aG h) | exact ap h
theorem bM {v:AV} {i:Nat} (h:v.l? = some i):v = .loc i:=by induction v using AV.casesOn <;> first | exact congrArg AV.loc (aG h) | exact ap h
theorem nu {v:AV} {x:Str} (h:v.s? = some x):v = .str x:=by induction v using AV.casesOn <;> first | exact congrArg AV.str (aG h) | exact ap h
theorem v9 {v:AV} {x:Bool} (h:v.b? = some x):v = .bool x:=by induction v using AV.casesOn <;> first | exact congrArg AV.bool (aG h) | exact ap h
theorem IO {v:AV} (h:v.n? = true):v = .none:=by induction v using AV.casesOn <;> first | rfl | exact bG h
theorem m5 {v:AV} {x:Value} (h:v.g? = some x):v = .glb x:=by induction v using AV.casesOn <;> first | exact congrArg AV.glb (aG h) | exact ap h
theorem bO {e:IE} {n:Int} (h:e.c? = some n):e = .c n:=by induction e using IE.casesOn <;> first | exact congrArg IE.c (aG h) | exact ap h
theorem jj {v:AV} {n:Int} (h:v.c? = some n):v = .int (.c n):=let ⟨_,h1,h2⟩:=az h; (cO h1).trans (congrArg AV.int (bO h2))
theorem rT {v:Value} {a:Addr} (h:eS v=some a):v = .ref a:=by induction v using Value.casesOn <;> first | exact congrArg Value.ref (aG h) | exact ap h
theorem cX {o:AO} {vs:List AV} (h:o.tup? = some vs):o = .tup vs:=by induction o using AO.casesOn <;> first | exact congrArg AO.tup (aG h) | exact ap h
theorem cy {o:AO} {vs:List AV} (h:o.lst? = some vs):o = .lst vs:=by induction o using AO.casesOn <;> first | exact congrArg AO.lst (aG h) | exact ap h
theorem lp {o:AO} {vs:List AV} (h:o.pl? = some vs):o = .pl vs:=by induction o using AO.casesOn <;> first | exact congrArg AO.pl (aG h) | exact ap h
theorem pq {o:AO} {vs:List (Str×AV)} (h:o.ns? = some vs):o = .ns vs:=by induction o using AO.casesOn <;> first | exact congrArg AO.ns (aG h) | exact ap h
theorem jZ {o:AO} {v:Option AV} (h:o.cell? = some v):o = .cell v:=by induction o using AO.casesOn <;> first | exact congrArg AO.cell (aG h) | exact ap h
theorem uc {o:AO} {v:Nat} (h:o.opq? = some v):o = .opq v:=by induction o using AO.casesOn <;> first | exact congrArg AO.opq (aG h) | exact ap h
theorem oP {o:AO} {p:Addr×Nat} (h:o.inst? = some p):o = .inst p.1 p.2:=by induction o using AO.casesOn <;> first | exact congrArg (fun p:Addr×Nat=>AO.inst p.1 p.2) (aG h) | exact ap h
theorem AA {o:AO} {t:Ty} (h:o.raw? = some t):o = .raw t:=by induction o using AO.casesOn <;> first | exact congrArg AO.raw (aG h) | exact ap h
theorem EO {o u:AO} (h:o.fz? = some u):o = .fz u:=by induction o using AO.casesOn <;> first | exact congrArg AO.fz (aG h) | exact ap h
theorem kL {o:AO} {b:Nat} (h:o.rf? = some b):o = .rf b:=by induction o using AO.casesOn <;> first | exact congrArg AO.rf (aG h) | exact ap h
theorem o9 {o:AO} {p:Nat×List IE} (h:o.il? = some p):o = .il p.1 p.2:=by induction o using AO.casesOn <;> first | exact congrArg (fun p:Nat×List IE=>AO.il p.1 p.2) (aG h) | exact ap h
theorem sW {o:AO} {ps:List (Int×AV)} (h:o.dc? = some ps):o = .dc ps:=by induction o using AO.casesOn <;> first | exact congrArg AO.dc (aG h) | exact ap h
theorem ba {α:Type} {l:List α} {a:α} (h:aZ l=some a):l = [a]:=by
 induction l using List.casesOn with
 | nil=>exact ap h
 | cons x r=>induction r using List.casesOn with | nil=>exact congrArg (fun x=>[x]) (aG h) | cons=>exact ap h
theorem ch {α:Type} {l:List α} {p:α×α} (h:eA l=some p):l = [p.1,p.2]:=by
 induction l using List.casesOn with
 | nil=>exact ap h
 | cons x r =>
  induction r using List.casesOn with
  | nil=>exact ap h
  | cons z q=>induction q using List.casesOn with | nil=>exact congrArg (fun p:α×α=>[p.1,p.2]) (aG h) | cons=>exact ap h
inductive All2 {α β:Type} (R:α->β->Prop):List α->List β->Prop
 | nil:All2 R [] []
 | cons {a b l m}:R a b->All2 R l m->All2 R (a::l) (b::m)
theorem All2.n {α β:Type} {R:α->β->Prop} {m:List β} (x:All2 R [] m):m = []:=by cases x; rfl
theorem All2.c {α β:Type} {R:α->β->Prop} {a:α} {l:List α} {m:List β} (x:All2 R (a::l) m):∃b r,m=b::r/\R a b/\All2 R l r:=by cases x with | cons h t=>exact ⟨_,_,rfl,h,t⟩
theorem All2.one {α β:Type} {R:α->β->Prop} {a:α} {m:List β} (x:All2 R [a] m):∃b,m = [b]/\R a b:=let ⟨b,_,e,h,t⟩:=x.c; ⟨b,e.trans (congrArg (b :: ·) t.n),h⟩
theorem All2.two {α β:Type} {R:α->β->Prop} {a a':α} {m:List β} (x:All2 R [a,a'] m):∃b b',m = [b,b']/\R a b/\R a' b':=let ⟨b,_,e,h,t⟩:=x.c; let ⟨b',e',h'⟩:=t.one; ⟨b,b',e.trans (congrArg (b :: ·) e'),h,h'⟩
theorem All2.mono {α β:Type} {R R':α->β->Prop} (k:∀a b,R a b->R' a b) {l:List α} {m:List β} (x:All2 R l m):All2 R' l m:=by
 induction x with | nil=>exact .nil | cons h _ ih=>exact .cons (k _ _ h) ih
theorem All2.len {α β:Type} {R:α->β->Prop} {l:List α} {m:List β} (x:All2 R l m):l.length=m.length:=by
 induction x with | nil=>rfl | cons _ _ ih=>simp [ih]
theorem All2.get {α β:Type} {R:α->β->Prop} {l:List α} {m:List β} (x:All2 R l m):∀{i:Nat} {a:α},l[i]? = some a->∃b,m[i]? = some b/\R a b:=by
 induction x with
 | nil=>intro i a e; simp at e
 | cons h _ ih =>
  intro i a e
  induction i using Nat.casesOn with
  | zero=>simp at e; subst e; exact ⟨_,rfl,h⟩
  | succ i=>simp at e; simpa using ih e
theorem All2.app {α β:Type} {R:α->β->Prop} {l l':List α} {m m':List β} (x:All2 R l m) (y:All2 R l' m'):All2 R (l++l') (m++m'):=by
 induction x with | nil=>exact y | cons h _ ih=>exact .cons h ih
theorem All2.drop {α β:Type} {R:α->β->Prop} {l:List α} {m:List β} (x:All2 R l m):∀n,All2 R (l.drop n) (m.drop n):=by
 induction x with
 | nil=>intro n; simp; exact .nil
 | cons h t ih=>intro n; induction n using Nat.casesOn with | zero=>exact .cons h t | succ n=>simpa using ih n
def Dn (ρ:Rho) (as:List Addr):AV->Value->Prop
 | .none,V=>V = .none
 | .bool b,V=>V = .bool b
 | .int e,V=>∃t,V = .int (e.den ρ) t
 | .str x,V=>∃t,V = .str x t
 | .loc i,V=>∃a,as[i]? = some a/\V = .ref a
 | .glb v,V=>V=v
 | .any,_=>True
def Pre (as as':List Addr):Prop:=∃t,as'=as++t
theorem Pre.refl {as:List Addr}:Pre as as:=⟨[],by simp⟩
theorem Pre.trans {a b c:List Addr} (x:Pre a b) (y:Pre b c):Pre a c:=by
 obtain ⟨t,rfl⟩:=x; obtain ⟨u,rfl⟩:=y; exact ⟨t++u,by simp⟩
theorem Pre.get {a b:List Addr} (x:Pre a b) {i:Nat} {y:Addr} (e:a[i]? = some y):b[i]? = some y:=by
 obtain ⟨t,rfl⟩:=x
 refine aa (List.getElem?_append_left (by have:=(List.getElem?_eq_some_iff.mp e).1; exact this)) ?_; exact e
theorem Dn.pre {ρ:Rho} {as as':List Addr} (p:Pre as as') {v:AV} {V:Value} (d:Dn ρ as v V):Dn ρ as' v V:=by
 induction v using AV.casesOn <;> try exact d
 obtain ⟨a,e,q⟩:=d
 exact ⟨a,p.get e,q⟩
def Nm (ρ:Rho) (as:List Addr) (p:Str×AV) (q:Str×Value):Prop:=p.1=q.1/\Dn ρ as p.2 q.2
theorem Nm.pre {ρ:Rho} {as as':List Addr} (p:Pre as as') {x:Str×AV} {y:Str×Value} (d:Nm ρ as x y):Nm ρ as' x y:=⟨d.1,d.2.pre p⟩
theorem bn {ρ:Rho} {as:List Addr} {ls:List (Str×AV)} {Ls:List (Str×Value)} (x:All2 (Nm ρ as) ls Ls) {n:Str}:match ls.lookup n with
  | some v=>∃V,Ls.lookup n=some V/\Dn ρ as v V
  | none=>Ls.lookup n=none:=by
 induction x with
 | nil=>rfl
 | @cons a b l m h _ ih =>
  obtain ⟨a1,a2⟩:=a; obtain ⟨b1,b2⟩:=b
  obtain ⟨h1,h2⟩:=h
  dsimp only at h1 h2
  subst h1
  simp only [List.lookup]
  induction q:n == a1 with
  | true=>exact ⟨b2,rfl,h2⟩
  | false=>exact ih
structure Opq where
 g:Gr
 p:Nat->Addr->Prop
 n1:∀a,p 1 a->∃Vs,Vs≠[]/\At g a (.lst Vs)
 n2:∀a,p 2 a->At g a (.lst [])
def E9 (ρ:Rho) (as:List Addr) (v:Option AV) (V:Option Value):Prop:=match v with
 | none=>True
 | some x=>∃y,V=some y/\Dn ρ as x y
noncomputable def ak (z:Int):Value:=.ref z.toNat
def eT (g:Gr) (a:Addr) (kvs:List (Int×Value)):Prop:=(a == sysModules)=false/\∃o,g a=some o/\∀w,o.IsDictOf (intKind pr w) kvs
def Kv (ρ:Rho) (as:List Addr) (p:Int×AV) (q:Int×Value):Prop:=p.1=q.1/\Dn ρ as p.2 q.2
theorem Kv.pre {ρ:Rho} {as as':List Addr} (p:Pre as as') {x:Int×AV} {y:Int×Value} (d:Kv ρ as x y):Kv ρ as' x y:=⟨d.1,d.2.pre p⟩
theorem eT.le {g g':Gr} {a:Addr} {kvs:List (Int×Value)} (k:∀x,g a=some x->g' a=some x) (x:eT g a kvs):eT g' a kvs:=let ⟨n,o,e,z⟩:=x; ⟨n,o,k _ e,z⟩
def aN (ρ:Rho) (as:List Addr) (g:Gr) (a:Addr):AO->Prop
 | .lst vs=>∃Vs,All2 (Dn ρ as) vs Vs/\At g a (.lst Vs)
 | .tup vs=>∃Vs,All2 (Dn ρ as) vs Vs/\At g a (.tup Vs)
 | .ns fs=>∃Fs,All2 (Nm ρ as) fs Fs/\At g a (.ns Fs)
 | .inst C j=>∃dx,as[j]? = some dx/\At g a (.inst C dx)
 | .cell v=>∃V,E9 ρ as v V/\At g a (.cell V)
 | .il b es=>∃Vs,IntsAre Vs (ρ.l b++es.map (IE.den ρ))/\At g a (.pl Vs)
 | .raw t=>At g a t
 | .pl vs=>∃Vs,All2 (Dn ρ as) vs Vs/\At g a (.pl Vs)
 | .rf b=>At g a (.pl ((ρ.l b).map ak))
 | .dc ps=>∃kvs,All2 (Kv ρ as) ps kvs/\eT g a kvs
 | _=>False
def aC (ρ:Rho) (O:Opq) (as:List Addr) (h:Heap) (a:Addr):AO->Prop
 | .opq k=>(∃x,O.g a=some x)/\O.p k a
 | .lit j i=>∃l,as[j]? = some l/\h.IsListIter a l i
 | .tit j i=>∃l,as[j]? = some l/\IsTupIter h a l i
 | .dead=>True
 | .fz o=>aN ρ as O.g a o
 | .lst vs=>aN ρ as h.get? a (.lst vs)
 | .tup vs=>aN ρ as h.get? a (.tup vs)
 | .ns fs=>aN ρ as h.get? a (.ns fs)
 | .inst C j=>aN ρ as h.get? a (.inst C j)
 | .cell v=>aN ρ as h.get? a (.cell v)
 | .il b es=>aN ρ as h.get? a (.il b es)
 | .raw t=>aN ρ as h.get? a (.raw t)
 | .pl vs=>aN ρ as h.get? a (.pl vs)
 | .rf b=>aN ρ as h.get? a (.rf b)
 | .dc ps=>aN ρ as h.get? a (.dc ps)
noncomputable def AO.own:AO->Bool | .opq _=>false | .dead=>false | .fz _=>false | _=>true
theorem aN.keep {ρ:Rho} {as as':List Addr} (p:Pre as as') {g g':Gr} {a:Addr} {o:AO} (k:∀x,g a=some x->g' a=some x) (x:aN ρ as g a o):aN ρ as' g' a o:=by
 induction o using AO.casesOn with
 | lst vs=>obtain ⟨Vs,y,z⟩:=x; exact ⟨Vs,y.mono fun zw zw q=>q.pre p,z.le k⟩
 | tup vs=>obtain ⟨Vs,y,z⟩:=x; exact ⟨Vs,y.mono fun zw zw q=>q.pre p,z.le k⟩
 | ns fs=>obtain ⟨Vs,y,z⟩:=x; exact ⟨Vs,y.mono fun zw zw q=>q.pre p,z.le k⟩
 | inst C j=>obtain ⟨dx,y,z⟩:=x; exact ⟨dx,p.get y,z.le k⟩
 | cell v =>
  obtain ⟨V,y,z⟩:=x
  refine ⟨V,?_,z.le k⟩
  induction v with
  | none=>trivial
  | some v=>obtain ⟨u,e,d⟩:=y; exact ⟨u,e,d.pre p⟩
 | il b es=>obtain ⟨Vs,y,z⟩:=x; exact ⟨Vs,y,z.le k⟩
 | raw t=>exact At.le x k
 | pl vs=>obtain ⟨Vs,y,z⟩:=x; exact ⟨Vs,y.mono fun zw zw q=>q.pre p,z.le k⟩
 | rf b=>exact At.le x k
 | dc ps=>obtain ⟨Vs,y,z⟩:=x; exact ⟨Vs,y.mono fun zw zw q=>q.pre p,z.le k⟩
 | opq _=>exact x.elim
 | lit _ _=>exact x.elim
 | tit _ _=>exact x.elim
 | dead=>exact x.elim
 | fz _=>exact x.elim
theorem aN.at {ρ:Rho} {O:Opq} {as:List Addr} {h:Heap} {G:Gr} {a:Addr} {o:AO} (k:∀x,G a=some x->h.get? a=some x) (x:aN ρ as G a o):aC ρ O as h a o:=by
 have y:=x.keep .refl k
 induction o using AO.casesOn <;> first | exact y | exact y.elim
theorem aC.keep {ρ:Rho} {O:Opq} {as as':List Addr} (p:Pre as as') {h h':Heap} {a:Addr} {o:AO} (k:o.own=true->∀x,h.get? a=some x->h'.get? a=some x) (x:aC ρ O as h a o):aC ρ O as' h' a o:=by
 induction o using AO.casesOn with
 | opq i=>exact x
 | lit j i=>obtain ⟨l,y,o,z1,z2⟩:=x; exact ⟨l,p.get y,o,k rfl _ z1,z2⟩
 | tit j i=>obtain ⟨l,y,o,z1,z2⟩:=x; exact ⟨l,p.get y,o,k rfl _ z1,z2⟩
 | dead=>trivial
 | fz o=>exact aN.keep p (fun zw e=>e) x
 | lst vs=>exact aN.keep (o:=.lst vs) p (k rfl) x
 | tup vs=>exact aN.keep (o:=.tup vs) p (k rfl) x
 | ns fs=>exact aN.keep (o:=.ns fs) p (k rfl) x
 | inst C j=>exact aN.keep (ρ:=ρ) (o:=.inst C j) p (k rfl) x
 | cell v=>exact aN.keep (o:=.cell v) p (k rfl) x
 | il b es=>exact aN.keep (o:=.il b es) p (k rfl) x
 | raw t=>exact aN.keep (ρ:=ρ) (as:=as) (as':=as') (o:=.raw t) p (k rfl) x
 | pl vs=>exact aN.keep (o:=.pl vs) p (k rfl) x
 | rf b=>exact aN.keep (ρ:=ρ) (as:=as) (as':=as') (o:=.rf b) p (k rfl) x
 | dc ps=>exact aN.keep (o:=.dc ps) p (k rfl) x
theorem At.pl {g:Gr} {a:Addr} {vs:List Value} (x:At g a (.pl vs)):At g a (.lst vs):=by
 obtain ⟨o,e,n,rfl⟩:=x
 exact ⟨_,e,rfl,n,rfl⟩
theorem aN.pl {ρ:Rho} {as:List Addr} {g:Gr} {a:Addr} {vs:List AV} (x:aN ρ as g a (.pl vs)):aN ρ as g a (.lst vs):=let ⟨Vs,y,z⟩:=x; ⟨Vs,y,z.pl⟩
theorem aC.view {ρ:Rho} {O:Opq} {as:List Addr} {h:Heap} {G:Gr} (kp:∀a o,G a=some o->h.get? a=some o) (og:∀a o,O.g a=some o->G a=some o) {a:Addr} {o:AO} (x:aC ρ O as h a o):aC ρ O as h a o.view:=by
 have vw:∀{o:AO},aC ρ O as h a o->aC ρ O as h a o.vw:=fun {o} x=>by induction o using AO.casesOn <;> first | exact x | exact aN.pl x
 refine vw ?_
 induction o using AO.casesOn <;> first | exact x | exact aN.at (fun x ex=>kp a _ (og a _ ex)) x
def EJ (ρ:Rho) (O:Opq) (h:Heap) (s:St) (as:List Addr):Prop:=∀i o,s.at i=some o->∃a,as[i]? = some a/\aC ρ O as h a o
section
variable {ρ:Rho} {O:Opq} {h:Heap} {s:St} {as:List Addr} (T:EJ ρ O h s as) {v:AV} {V:Value}
include T
theorem lA {o:AO} (e:(v.l?.bind s.at)=some o) (d:Dn ρ as v V):∃x,V = .ref x/\aC ρ O as h x o:=by
 apply bc;intro ng
 obtain ⟨i,e1,e2⟩:=az e
 rw [bM e1] at d
 obtain ⟨x,ex,hv⟩:=d
 obtain ⟨a,ea,z⟩:=T i o e2
 apply ng;clear ng
 rw [ex] at ea
 exact ⟨x,hv,aG ea▸z⟩
theorem eB {vs:List AV} (e:lstAt s v=some vs) (d:Dn ρ as v V):∃x Vs,V = .ref x/\All2 (Dn ρ as) vs Vs/\h.IsList x Vs.toArray:=by
 apply bc;intro ng
 obtain ⟨o,e3,e4⟩:=az e
 obtain ⟨x,hv,z⟩:=lA T e3 d
 rw [cy e4] at z
 obtain ⟨Vs,z⟩:=z
 apply ng;clear ng
 exact ⟨x,Vs,hv,z⟩
theorem bB {vs:List AV} (e:tupAt s v=some vs) (d:Dn ρ as v V):∃x Vs,V = .ref x/\All2 (Dn ρ as) vs Vs/\IsTup h x Vs.toArray:=by
 apply bc;intro ng
 obtain ⟨o,e3,e4⟩:=az e
 obtain ⟨x,hv,z⟩:=lA T e3 d
 rw [cX e4] at z
 obtain ⟨Vs,z⟩:=z
 apply ng;clear ng
 exact ⟨x,Vs,hv,z⟩
end
structure Co (w:World) (ρ:Rho) (O:Opq) (G:Gr) (h:Heap) (l:List AO) (pc:List (CE×Bool)) (as:List Addr):Prop where
 bs:∃hb,Wd w hb/\∀a o,hb.get? a=some o->G a=some o
 kp:∀a o,G a=some o->h.get? a=some o
 og:∀a o,O.g a=some o->G a=some o
 sz:as.length=l.length
 ob:∀(i:Nat) o a,l[i]? = some o->as[i]? = some a->aC ρ O as h a o/\(o.own=true->G a=none)
 nd:∀(i j:Nat) o o' a,l[i]? = some o->l[j]? = some o'->o.own=true->o'.own=true->as[i]? = some a->as[j]? = some a->i=j
 pc:∀p∈pc,p.1.den ρ↔p.2=true
structure SR (w:World) (ρ:Rho) (O:Opq) (G:Gr) (env:Env) (h:Heap) (s:St) (as:List Addr):Prop where
 bs:∃hb,Wd w hb/\∀a o,hb.get? a=some o->G a=some o
 kp:∀a o,G a=some o->h.get? a=some o
 og:∀a o,O.g a=some o->G a=some o
 fL:G env.locals=none
 eg:env.globals=mainGlobals
 eb:env.builtins=builtinsNs
 ek:env.scope.kind = .function
 lc:∃f,h.Ns env.locals f/\∀x v,s.ls.lookup x=some v->∃V,f x=some V/\Dn ρ as v V
 cc:∀x i,s.cl.lookup x=some i->∃a,as[i]? = some a/\env.cells.lookup x=some a
 sz:as.length=s.ob.length
 ob:∀(i:Nat) o a,s.ob[i]? = some o->as[i]? = some a->aC ρ O as h a o/\(o.own=true->a≠env.locals/\G a=none)
 nd:∀(i j:Nat) o o' a,s.ob[i]? = some o->s.ob[j]? = some o'->o.own=true->o'.own=true->as[i]? = some a->as[j]? = some a->i=j
 pc:∀p∈s.pc,p.1.den ρ↔p.2=true
section
variable {w:World} {ρ:Rho} {O:Opq} {G:Gr} {env:Env} {h h':Heap} {s s':St} {as:List Addr}
theorem SR.wd (S:SR w ρ O G env h s as):Wd w h:=let ⟨hb,W,k⟩:=S.bs; W.keeps fun a o e=>S.kp a o (k a o e)
theorem SR.k (S:SR w ρ O G env h s as):(K w.params).In h:=S.wd.k
theorem SR.get (S:SR w ρ O G env h s as) {i:Nat} {o:AO} (e:s.ob[i]? = some o):∃a,as[i]? = some a/\aC ρ O as h a o/\(o.own=true->a≠env.locals/\G a=none):=by
 have hl:i < as.length:=by refine aa S.sz ?_; exact (List.getElem?_eq_some_iff.mp e).1
 exact ⟨as[i],List.getElem?_eq_getElem hl,S.ob i o _ e (List.getElem?_eq_getElem hl)⟩
theorem SR.at (S:SR w ρ O G env h s as) {i:Nat} {o:AO} (e:s.at i=some o):∃a,as[i]? = some a/\aC ρ O as h a o:=by
 unfold St.at at e
 induction q:s.ob[i]? with
 | none=>rw [q] at e; exact ap e
 | some o' =>
  rw [q] at e
  obtain ⟨a,x,y,-⟩:=S.get q
  cases e
  exact ⟨a,x,y.view S.kp S.og⟩
theorem SR.hat (S:SR w ρ O G env h s as):EJ ρ O h s as:=fun i o e=>S.at e
theorem mK {p:Prop} [Decidable p] {b:Bool} (e:decide p=b):p↔b=true:=e▸decide_eq_true_iff.symm
theorem fJ {a b:IE} {p:Int×Int} (e:aq a.c? b.c? = some p):a.den ρ=p.1/\b.den ρ=p.2:=by
 obtain ⟨e1,e2⟩:=ah e
 refine aa (bO e1) (aa (bO e2) ?_); exact ⟨rfl,rfl⟩
theorem kA {a b:IE} {f:Int->Int->Bool} {t r:Bool} (h:∀x,f x x=t) (e:lR a b f t=some r):f (a.den ρ) (b.den ρ)=r:=by
 unfold lR at e
 induction hp:aq a.c? b.c? with
 | some p =>
  rw [hp] at e
  obtain ⟨e1,e2⟩:=fJ (ρ:=ρ) hp
  refine aa e1 (aa e2 ?_); exact aG e
 | none =>
  rw [hp] at e
  obtain ⟨q,e⟩:=cS e
  rw [IE.same_ok q,h]; exact aG e
set_option tactic.hygienic true
theorem CE.dec_ok {c:CE} {b:Bool} (e:c.dec=some b):c.den ρ↔b=true:=by
 induction c using CE.casesOn <;> try exact ap e
 ·rename_i x z
  have e:lR x z (fun a b=>decide (a < b)) false=some b:=e
  show x.den ρ < z.den ρ↔_
  exact @mK (x.den ρ < z.den ρ) _ _ (kA (ρ:=ρ) (fun x=>decide_eq_false (Int.lt_irrefl x)) e)
 ·rename_i x z
  have e:lR x z (fun a b=>decide (a<=b)) true=some b:=e
  show x.den ρ<=z.den ρ↔_
  exact @mK (x.den ρ<=z.den ρ) _ _ (kA (ρ:=ρ) (fun x=>decide_eq_true (Int.le_refl x)) e)
 ·rename_i x z
  have e:lR x z (fun a b=>decide (a=b)) true=some b:=e
  show x.den ρ=z.den ρ↔_
  exact @mK (x.den ρ=z.den ρ) _ _ (kA (ρ:=ρ) (fun x=>decide_eq_true rfl) e)
set_option tactic.hygienic false
theorem SR.pcs (S:SR w ρ O G env h s as) {pc:List (CE×Bool)} (k:∀p∈pc,p.1.den ρ↔p.2=true):SR w ρ O G env h { s with pc:=pc } as:=⟨S.bs,S.kp,S.og,S.fL,S.eg,S.eb,S.ek,S.lc,S.cc,S.sz,S.ob,S.nd,k⟩
theorem nX {post:Fl->St->Prop} {P:Prop} {c:CE} {k:Bool->St->Tr} (S:SR w ρ O G env h s as) (y:(s.ask c k).ok ρ post)
  (q:∀b s',(c.den ρ↔b=true)->s'.ob=s.ob->(k b s').ok ρ post->SR w ρ O G env h s' as->P):P:=by
 unfold St.ask at y
 induction hd:c.dec with
 | some b=>rw [hd] at y; exact q b s (CE.dec_ok hd) rfl y S
 | none =>
  rw [hd] at y
  induction hl:zK s.pc c with
  | some b=>rw [hl] at y; exact q b s (S.pc _ (pt hl)) rfl y S
  | none =>
   rw [hl] at y
   have nw:∀b,(c.den ρ↔b=true)->SR w ρ O G env h { s with pc:=(c,b)::s.pc } as:=fun b hb=>S.pcs fun p m=>by cases m with | head=>exact hb | tail _ m=>exact S.pc p m
   rcases Classical.em (c.den ρ) with hc | hc
   ·exact q true { s with pc:=(c,true)::s.pc } ⟨fun zw=>rfl,fun zw=>hc⟩ rfl (y.1 hc) (nw true ⟨fun zw=>rfl,fun zw=>hc⟩)
   ·exact q false { s with pc:=(c,false)::s.pc } ⟨fun z=>absurd z hc,fun z=>nomatch z⟩ rfl (y.2 hc) (nw false ⟨fun z=>absurd z hc,fun z=>nomatch z⟩)
theorem eE {post:Fl->St->Prop} {P:Prop} {c:CE} {k:Bool->St->Tr} (S:SR w ρ O G env h s as) (y:(s.ask c k).ok ρ post)
  (q:∀b s',(c.den ρ↔b=true)->(k b s').ok ρ post->SR w ρ O G env h s' as->P):P:=nX S y fun b s' e zw=>q b s' e
theorem iq {post:Fl->St->Prop} {c:CE} {t:Tr} (y:(qG c t).ok ρ post):c.den ρ/\t.ok ρ post:=by
 unfold qG at y
 induction hd:c.dec with
 | none=>rw [hd] at y; exact y
 | some b =>
  rw [hd] at y
  induction b with
  | true=>exact ⟨(CE.dec_ok hd).mpr rfl,y⟩
  | false=>exact y
theorem lu {a:IE} (e:small a=true):Builtin.Int.intBits (a.den ρ)<=64:=by
 unfold small at e
 induction hc:a.c? with
 | none=>rw [hc] at e; exact bG e
 | some n =>
  rw [hc] at e
  refine aa (bO hc) ?_
  have e:n.natAbs < 2 ^ 60:=of_decide_eq_true e
  show Builtin.Int.intBits n<=64
  unfold Builtin.Int.intBits
  split
  ·exact Nat.zero_le _
  ·rename_i hn
   have hn:n≠0:=by simpa using hn
   have:=(Nat.log2_lt (n:=n.natAbs) (k:=60) (by (first | lia | omega))).mpr e; (first | lia | omega)
theorem uI {post:Fl->St->Prop} {a b:IE} {t:Tr} (y:(uE a b t).ok ρ post):IntMulOk (a.den ρ) (b.den ρ)/\t.ok ρ post:=by
 unfold uE at y
 split at y
 ·rename_i e
  refine ⟨?_,y⟩
  rcases Bool.or_eq_true_iff.mp e with e | e
  ·exact IntMulOk.of_left (lu e)
  ·exact IntMulOk.of_right (lu e)
 ·exact y
theorem lg {a b:IE}:(a.add' b).den ρ=a.den ρ + b.den ρ:=by
 unfold IE.add'
 induction e:aq a.c? b.c? with
 | none=>rfl
 | some p=>refine aa ((fJ (ρ:=ρ) e).1) (aa ((fJ (ρ:=ρ) e).2) ?_); rfl
theorem tx {a b:IE}:(a.sub' b).den ρ=a.den ρ - b.den ρ:=by
 unfold IE.sub'
 induction e:aq a.c? b.c? with
 | none=>rfl
 | some p=>refine aa ((fJ (ρ:=ρ) e).1) (aa ((fJ (ρ:=ρ) e).2) ?_); rfl
theorem sK {a b:IE}:(a.mul' b).den ρ=a.den ρ * b.den ρ:=by
 unfold IE.mul'
 induction e:aq a.c? b.c? with
 | none=>rfl
 | some p=>refine aa ((fJ (ρ:=ρ) e).1) (aa ((fJ (ρ:=ρ) e).2) ?_); rfl
theorem tU {a:IE}:a.neg'.den ρ = -(a.den ρ):=by
 unfold IE.neg'
 induction e:a.c? with
 | none=>rfl
 | some p=>refine aa (bO e) ?_; rfl
theorem sE {a:IE}:a.abs'.den ρ=if a.den ρ < 0 then -(a.den ρ) else a.den ρ:=by
 unfold IE.abs'
 induction e:a.c? with
 | none=>rfl
 | some p=>refine aa (bO e) ?_; rfl
end
section
variable {w:World} {ρ:Rho} {O:Opq} {G:Gr} {env:Env} {h h':Heap} {s s':St} {as:List Addr} {A:Around} {E:Value->Shared->Prop} {gs:Array GenState} {dr:Drawn} {n:Nat} {os:OsState} {post:Fl->St->Prop}
theorem ij {c:Prop} [Decidable c] {b:Bool} (e:c↔b=true):decide c=b:=by induction b using Bool.casesOn <;> simp_all
theorem mL {a b:Int} {c:Bool} (e:a=b↔c=true):(a == b)=c:=by induction c using Bool.casesOn <;> simp_all
theorem bF {a b:AV} {V U:Value} {p:IE×IE} (e:aq a.i? b.i? = some p) (d:Dn ρ as a V) (d':Dn ρ as b U):∃t u,V = .int (p.1.den ρ) t/\U = .int (p.2.den ρ) u:=by
 apply bc;intro ng
 obtain ⟨e1,e2⟩:=ah e
 rw [cO e1] at d; rw [cO e2] at d'
 obtain ⟨t,d⟩:=d; obtain ⟨u,d'⟩:=d'
 apply ng;clear ng
 exact ⟨t,u,d,d'⟩
theorem o6 {a b:AV} {V U:Value} {p:Nat×Nat} (e:aq a.l? b.l? = some p) (d:Dn ρ as a V) (d':Dn ρ as b U):∃x z,as[p.1]? = some x/\as[p.2]? = some z/\V = .ref x/\U = .ref z:=by
 apply bc;intro ng
 obtain ⟨e1,e2⟩:=ah e
 rw [bM e1] at d; rw [bM e2] at d'
 obtain ⟨t,a1,d⟩:=d; obtain ⟨u,a2,d'⟩:=d'
 apply ng;clear ng
 exact ⟨t,u,a1,a2,d,d'⟩
theorem SR.vw {α:Type} {f:AO->Option α} {c:α->AO} (hf:∀{o:AO} {x:α},f o=some x->o=c x) (S:SR w ρ O G env h s as) {i:Nat} {a:Addr} {x:α} (e:(s.at i).bind f=some x) (ea:as[i]? = some a):aC ρ O as h a (c x):=by
 obtain ⟨o,e1,e2⟩:=az e
 obtain ⟨a',a1,a2⟩:=S.at e1
 rw [ea] at a1
 rw [hf e2,<- aG a1] at a2; exact a2
theorem rl {a b:AV} {V U:Value} {c:Bool} (e:GU a b=some c) (d:Dn ρ as a V) (d':Dn ρ as b U):plainIs V U=true/\(V == U)=c:=by
 induction b using AV.casesOn <;> try exact ap e
 have d':U = .none:=d'
 subst d'
 induction a using AV.casesOn <;> try exact ap e
 ·have d:V = .none:=d
  subst d; exact ⟨rfl,aG e⟩
 ·obtain ⟨t,rfl⟩:=d; exact ⟨rfl,aG e⟩
 ·obtain ⟨t,_,rfl⟩:=d; exact ⟨rfl,aG e⟩
theorem dL {op:CmpOp} {a b:AV} {k:Bool->St->Tr} {V U:Value} {Q:Value->Shared->Prop} (hu:A.units < cLine) (y:(gN op a b s k).ok ρ post) (S:SR w ρ O G env h s as) (d:Dn ρ as a V) (d':Dn ρ as b U)
  (q:∀c s' n',(k c s').ok ρ post->SR w ρ O G env h s' as->Q (.bool c) ⟨h,gs,dr,n',os⟩):wpAny (model pr w) A (compareOp op V U) Q E ⟨h,gs,dr,n,os⟩:=by
 induction op using CmpOp.casesOn <;> try exact y.elim
 ·rcases cG y with ⟨p,e,y⟩ | ⟨-,y⟩
  ·obtain ⟨t,u,rfl,rfl⟩:=bF e d d'
   exact eE S y fun c s' e y S=>PyProof.Rows.eq_int (by refine aa (mL e) ?_; exact q _ _ _ y S)
  ·rcases cG y with ⟨p,e,y⟩ | ⟨-,y⟩
   ·obtain ⟨e1,e2⟩:=ah e
    rw [nu e1] at d; rw [nu e2] at d'
    apply bc;intro ng
    obtain ⟨t,rfl⟩:=d; obtain ⟨u,rfl⟩:=d'
    apply ng;clear ng
    exact PySem.EqBoolInt.of_rc (s:=⟨h,gs,dr,n,os⟩) (SeqAt.RcAt.str_str _ _ _ _) (q _ _ _ y S)
   ·obtain ⟨p,e,y⟩:=af y
    apply bc;intro ng
    obtain ⟨e1,e2⟩:=ah e
    apply ng;clear ng
    rw [v9 e1] at d; rw [v9 e2] at d'
    subst d; subst d'
    exact PySem.EqBoolInt.of_rc (s:=⟨h,gs,dr,n,os⟩) (SeqAt.RcAt.bool_bool _ _) (q _ _ _ y S)
 ·rcases cG y with ⟨p,e,y⟩ | ⟨-,y⟩
  ·obtain ⟨t,u,rfl,rfl⟩:=bF e d d'
   exact eE S y fun c s' e y S=>PyProof.Rows.ne_int (by rw [bne,mL e]; exact q _ _ _ y S)
  ·obtain ⟨p,e,y⟩:=af y
   apply bc;intro ng
   obtain ⟨x,z,e1,e2,rfl,rfl⟩:=o6 e d d'
   obtain ⟨r,e,y⟩:=af y
   obtain ⟨f1,f2⟩:=ah e
   obtain ⟨f3,y⟩:=aj y
   obtain ⟨-,a3⟩:=S.vw (c:=.opq) uc f1 e1
   obtain ⟨Vs,b2,b3⟩:=S.vw (c:=.lst) cy f2 e2
   apply ng;clear ng
   rw [List.isEmpty_iff.mp f3] at b2
   cases b2
   have l2:h.IsList z #[]:=b3
   rcases cF y with ⟨c1,y⟩ | ⟨-,y⟩
   ·rw [eq_of_beq c1] at a3
    apply bc;intro ng
    obtain ⟨Us,u1,u2⟩:=O.n1 _ a3
    apply ng;clear ng
    have l1:h.IsList x Us.toArray:=u2.le fun o e=>S.kp _ _ (S.og _ _ e)
    exact PySem.EqBoolInt.of_rcne (s:=⟨h,gs,dr,n,os⟩) (SeqAt.RcNeAt.lists_lengths l1 l2 (by induction Us using List.casesOn with | nil=>exact absurd rfl u1 | cons=>simp) hu) (q _ _ _ y S)
   ·obtain ⟨c1,y⟩:=aj y
    rcases cF y with ⟨-,y⟩ | ⟨-,y⟩
    ·exact y.elim
    ·rw [eq_of_beq c1] at a3
     have l1:h.IsList x #[]:=(O.n2 _ a3).le fun o e=>S.kp _ _ (S.og _ _ e)
     exact PySem.EqBoolInt.of_rcne (s:=⟨h,gs,dr,n,os⟩) (SeqAt.RcNeAt.lists (e:=fun zw=>true) l1 l2 rfl hu fun j h1=>(Nat.not_lt_zero _ h1).elim) (q _ _ _ y S)
 ·obtain ⟨p,e,y⟩:=af y
  apply bc;intro ng
  obtain ⟨t,u,rfl,rfl⟩:=bF e d d'
  apply ng;clear ng
  exact eE S y fun c s' e y S=>PyProof.Rows.lt_int (by refine aa (show decide (_ < _)=c from ij e) ?_; exact q _ _ _ y S)
 ·obtain ⟨p,e,y⟩:=af y
  apply bc;intro ng
  obtain ⟨t,u,rfl,rfl⟩:=bF e d d'
  apply ng;clear ng
  exact eE S y fun c s' e y S=>PyProof.Rows.le_int (by refine aa (show decide (_<=_)=c from ij e) ?_; exact q _ _ _ y S)
 ·obtain ⟨p,e,y⟩:=af y
  apply bc;intro ng
  obtain ⟨t,u,rfl,rfl⟩:=bF e d d'
  apply ng;clear ng
  exact eE S y fun c s' e y S=>PyProof.Rows.gt_int (by refine aa (show decide (_ < _)=c from ij e) ?_; exact q _ _ _ y S)
 ·obtain ⟨p,e,y⟩:=af y
  apply bc;intro ng
  obtain ⟨t,u,rfl,rfl⟩:=bF e d d'
  apply ng;clear ng
  exact eE S y fun c s' e y S=>PyProof.Rows.ge_int (by refine aa (show decide (_<=_)=c from ij e) ?_; exact q _ _ _ y S)
 ·obtain ⟨c,e,y⟩:=af y
  apply bc;intro ng
  obtain ⟨e1,e2⟩:=rl e d d'
  apply ng;clear ng
  exact wpAny_is_plain e1 (by refine aa e2 ?_; exact q _ _ _ y S)
 ·obtain ⟨c,e,y⟩:=af y
  apply bc;intro ng
  obtain ⟨e1,e2⟩:=rl e d d'
  apply ng;clear ng
  exact wpAny_isNot_plain e1 (by refine aa e2 ?_; exact q _ _ _ y S)
theorem ip {a:AV} {k:Bool->St->Tr} {V:Value} {Q:Bool->Shared->Prop} (y:(pL a s k).ok ρ post) (S:SR w ρ O G env h s as) (d:Dn ρ as a V)
  (q:∀c s' n',(k c s').ok ρ post->SR w ρ O G env h s' as->Q c ⟨h,gs,dr,n',os⟩):wpAny (model pr w) A (truthy V) Q E ⟨h,gs,dr,n,os⟩:=by
 induction a using AV.casesOn <;> try exact y.elim
 ·subst d; exact PyProof.Rows.truthy_none (q _ _ _ y S)
 ·subst d; exact wpAny_truthy_bool (q _ _ _ y S)
 ·obtain ⟨t,rfl⟩:=d
  exact eE S y fun c s' e y S=>PyProof.Rows.truthy_int (by
   have e2:(IE.den ρ _ == 0)=c:=mL e
   rw [bne,e2]; exact q _ _ _ y S)
theorem mi {v:Value}:Dn ρ as (jD v) v:=by
 induction v using Value.casesOn <;> first | rfl | exact ⟨_,rfl⟩
theorem jb:bootBuiltins (Str.ofString "isinstance")=some (.builtin "isinstance"):=by boot_fast
theorem A6:bootBuiltins (Str.ofString "abs")=some (.builtin "abs"):=by boot_fast
theorem Bq:bootBuiltins (Str.ofString "max")=some (.builtin "max"):=by boot_fast
theorem B3:bootBuiltins (Str.ofString "sum")=some (.builtin "sum"):=by boot_fast
theorem Bw:bootBuiltins (Str.ofString "len")=some (.builtin "len"):=by boot_fast
theorem Ca:bootBuiltins (Str.ofString "int")=some (.type "int"):=by boot_fast
theorem xc:bootBuiltins (Str.ofString "bool")=some (.type "bool"):=by boot_fast
theorem rA:bootBuiltins (Str.ofString "tuple")=some (.type "tuple"):=by boot_fast
theorem BM:bootBuiltins (Str.ofString "str")=some (.type "str"):=by boot_fast
theorem vK:bootBuiltins (Str.ofString "dict")=some (.type "dict"):=by boot_fast
theorem jM:bootBuiltins (Str.ofString "enumerate")=some (.type "enumerate"):=by boot_fast
theorem vv:bootBuiltins (Str.ofString "list")=some (.type "list"):=by boot_fast
noncomputable def oe:List (Str×Value)->Prop | []=>True | p::r=>bootBuiltins p.1=some p.2/\oe r
theorem oe.ok {l:List (Str×Value)} (H:oe l) {y:Str} {u:Value} (e:l.lookup y=some u):bootBuiltins y=some u:=by
 induction l with
 | nil=>exact ap e
 | cons p r ih =>
  have e:(match y == p.1 with | true=>some p.2 | false=>r.lookup y)=some u:=e
  induction q:y == p.1 with
  | true=>rw [q] at e; refine aa (aD q) (aa (Eq.symm (aG e)) ?_); exact H.1
  | false=>rw [q] at e; exact ih H.2 e
theorem AZ {x:Str} {v:Value} (e:blt x=some v) (hn:(x == Str.ofString "__name__")=false):bootBuiltins x=some v :=
 oe.ok (l:=FY) (And.intro jb (And.intro A6 (And.intro Bq (And.intro B3 (And.intro Bw (And.intro Ca (And.intro xc (And.intro rA (And.intro vv (And.intro BM (And.intro vK (And.intro jM trivial)))))))))))) e
theorem qJ {x:Str} {v:AV} (S:SR w ρ O G env h s as) (e:sS s x=some v):∃a V,env.cells.lookup x=some a/\h.IsCell a (some V)/\Dn ρ as v V:=by
 apply bc;intro ng
 obtain ⟨o,e,e4⟩:=az e
 obtain ⟨c,e,e3⟩:=az e
 obtain ⟨i,e1,e2⟩:=az e
 have e4:o=some v:=e4
 subst e4
 obtain ⟨a,a1,a2⟩:=S.cc x i e1
 obtain ⟨a',b1,b2⟩:=S.at e2
 rw [a1] at b1
 rw [jZ e3,<- aG b1] at b2
 obtain ⟨_,⟨V',rfl,d⟩,o,o1,o2⟩:=b2
 apply ng;clear ng
 exact ⟨a,V',a2,⟨o,o1,o2⟩,d⟩
theorem tH {x:Str} {k:AV->St->Tr} {pos:Pos} {Q:Value->Shared->Prop} (y:(yO w.params env.scope x s k).ok ρ post) (S:SR w ρ O G env h s as)
  (q:∀v V,(k v s).ok ρ post->Dn ρ as v V->Q V ⟨h,gs,dr,n,os⟩):wpAny (model pr w) A (eval (.Name x pos) env) Q E ⟨h,gs,dr,n,os⟩:=by
 rcases cF y with ⟨-,y⟩ | ⟨hx,y⟩
 ·exact y.elim
 apply bc;intro ng
 obtain ⟨hx1,hx2⟩:=Bool.or_eq_false_iff.mp hx
 obtain ⟨kd,hl,y⟩:=af y
 apply ng;clear ng
 cases kd <;> try exact y.elim
 ·obtain ⟨v,e,y⟩:=af y
  apply bc;intro ng
  obtain ⟨f,hN,hL⟩:=S.lc
  obtain ⟨V,e',d⟩:=hL x v e
  apply ng;clear ng
  exact wpAny_Name (wpAny_loadName_local (s:=⟨h,gs,dr,n,os⟩) S.ek hl hN e' (q v V y d)) hx1
 ·obtain ⟨v,e,y⟩:=af y
  apply bc;intro ng
  obtain ⟨a,V,a2,hc,d⟩:=qJ S e
  apply ng;clear ng
  exact wpAny_Name (wpAny_loadName_cell (s:=⟨h,gs,dr,n,os⟩) S.ek hl a2 hc (q v V y d)) hx1
 ·obtain ⟨g,e,y⟩:=af y
  apply bc;intro ng
  obtain ⟨hb,W,kb⟩:=S.bs
  have kk:∀a o,hb.get? a=some o->h.get? a=some o:=fun a o e=>S.kp _ _ (kb _ _ e)
  obtain ⟨p,l,me,mg,mb,T⟩:=W.t
  apply ng;clear ng
  have T:=topRead_of T
  have hg:h.Ns env.globals mg:=by refine aa S.eg ?_; exact T.g.keeps kk
  induction g with
  | some v=>exact Calls.Name_function_global S.ek hl (Calls.loadGlobal_global (s:=⟨h,gs,dr,n,os⟩) hg (mg_of W.k T.g e) (q _ _ y mi)) hx1
  | none =>
   apply bc;intro ng
   obtain ⟨v,e2,y⟩:=af y
   apply ng;clear ng
   have hbb:h.Ns env.builtins mb:=by refine aa S.eb ?_; exact T.b.keeps kk
   exact Calls.Name_function_global S.ek hl (Calls.loadGlobal_builtin (s:=⟨h,gs,dr,n,os⟩) hg (mg_none_of W.k T.g e) hbb ((T.builtins x (beq_eq_false_iff_ne.mp hx2)).trans (AZ e2 hx2)) (q _ _ y rfl)) hx1
end
section
open PySem PySem.W PyProof.Rows PySem.Calls Builtin Builtin.ObjectAttr
section
variable {w:World} {ρ:Rho} {O:Opq} {G:Gr} {env:Env} {h h':Heap} {s s':St} {as:List Addr} {A:Around} {E:Value->Shared->Prop} {gs:Array GenState} {dr:Drawn} {n:Nat} {os:OsState} {post:Fl->St->Prop}
theorem SR.frame (S:SR w ρ O G env h s as) {ls:List (Str×AV)} (hs:Heap.SameBut env.locals h h') (lc:∃f,h'.Ns env.locals f/\∀x v,ls.lookup x=some v->∃V,f x=some V/\Dn ρ as v V):SR w ρ O G env h' { s with ls:=ls } as:=by
 refine ⟨S.bs,fun a o e=>?_,S.og,S.fL,S.eg,S.eb,S.ek,lc,S.cc,S.sz,fun i o a e e'=>?_,S.nd,S.pc⟩
 ·exact (hs.2 a fun q=>by rw [q,S.fL] at e; exact ap e).trans (S.kp a o e)
 ·obtain ⟨x,y⟩:=S.ob i o a e e'
  exact ⟨x.keep .refl (fun ow x' ex=>(hs.2 a (y ow).1).trans ex),y⟩
theorem SR.obj' (S:SR w ρ O G env h s as) {j:Nat} {o o':AO} {a:Addr} (eo:s.ob[j]? = some o) (ow:o.own=true) (ea:as[j]? = some a) (hs:∀b x,b≠a->h.get? b=some x->h'.get? b=some x) (y:aC ρ O as h' a o') :
  SR w ρ O G env h' { s with ob:=s.ob.set j o' } as:=by
 obtain ⟨hl,hg⟩:=(S.ob j o a eo ea).2 ow
 have hj:j < s.ob.length:=(List.getElem?_eq_some_iff.mp eo).1
 refine ⟨S.bs,fun b x e=>?_,S.og,S.fL,S.eg,S.eb,S.ek,?_,S.cc,by simp [S.sz],fun i x b e e'=>?_,fun i i' x x' b e1 e2 w1 w2 e3 e4=>?_,S.pc⟩
 ·exact hs b x (fun q=>by rw [q,hg] at e; exact ap e) (S.kp b x e)
 ·obtain ⟨f,⟨oL,es,ep,l2,l3⟩,l1⟩:=S.lc
  exact ⟨f,⟨oL,es,ep,hs _ _ hl.symm l2,l3⟩,l1⟩
 ·by_cases hij:j=i
  ·subst hij
   rw [ea] at e'; cases e'
   rw [List.getElem?_set_self hj] at e
   cases e
   exact ⟨y,fun zw=>⟨hl,hg⟩⟩
  ·dsimp only at e
   rw [List.getElem?_set_ne hij] at e
   obtain ⟨x1,z⟩:=S.ob i x b e e'
   refine ⟨x1.keep .refl (fun w x' ex=>hs b x' (fun q=>?_) ex),z⟩
   subst q
   exact hij (S.nd j i o x b eo e ow w ea e')
 ·have f:∀(i:Nat) x,(s.ob.set j o')[i]? = some x->x.own=true->∃x0,s.ob[i]? = some x0/\x0.own=true:=fun i x e w=>by
   by_cases hij:j=i
   ·subst hij; exact ⟨o,eo,ow⟩
   ·rw [List.getElem?_set_ne hij] at e; exact ⟨x,e,w⟩
  obtain ⟨y1,y2,y3⟩:=f i x e1 w1
  obtain ⟨z1,z2,z3⟩:=f i' x' e2 w2
  exact S.nd i i' y1 z1 b y2 z2 y3 z3 e3 e4
theorem SR.obj (S:SR w ρ O G env h s as) {j:Nat} {o o':AO} {a:Addr} (eo:s.ob[j]? = some o) (ow:o.own=true) (ea:as[j]? = some a) (hs:Heap.SameBut a h h') (y:aC ρ O as h' a o'):SR w ρ O G env h' { s with ob:=s.ob.set j o' } as :=
 S.obj' eo ow ea (fun b x n e=>(hs.2 b n).trans e) y
theorem aW {x:Str} {v:AV} {V:Value} {k:St->Tr} {Q:Unit->Shared->Prop} (y:(bZ env.scope x v s k).ok ρ post) (S:SR w ρ O G env h s as) (d:Dn ρ as v V)
  (q:∀s' h' n',(k s').ok ρ post->SR w ρ O G env h' s' as->Q () ⟨h',gs,dr,n',os⟩):wpAny (model pr w) A (storeName env x V) Q E ⟨h,gs,dr,n,os⟩:=by
 apply bc;intro ng
 obtain ⟨kd,hx,y⟩:=af y
 apply ng;clear ng
 cases kd <;> try exact y.elim
 ·obtain ⟨f,hN,hL⟩:=S.lc
  refine wpAny_storeName_local (s:=⟨h,gs,dr,n,os⟩) hx hN (fun h' hn hs=>q _ h' _ y (S.frame hs ⟨_,hn,fun z u e=>?_⟩)) (by refine aa S.ek ?_; rfl)
  have e:(match z == x with | true=>some v | false=>s.ls.lookup z)=some u:=e
  by_cases hz:z=x
  ·subst hz; rw [beq_self_eq_true] at e; exact ⟨V,if_pos rfl,aG e▸d⟩
  ·rw [beq_eq_false_iff_ne.mpr hz] at e; refine aa (if_neg hz) ?_; exact hL z u e
 ·obtain ⟨i,e,y⟩:=af y
  apply bc;intro ng
  obtain ⟨v0,e2,y⟩:=af y
  obtain ⟨o,e2,e3⟩:=az e2
  rw [jZ e3] at e2
  obtain ⟨a,a1,a2⟩:=S.cc x i e
  obtain ⟨a',b1,b2,b3⟩:=S.get e2
  rw [a1] at b1
  rw [<- aG b1] at b2
  obtain ⟨V0,_,o,o1,o2⟩:=b2
  apply ng;clear ng
  refine wpAny_storeName_cell (s:=⟨h,gs,dr,n,os⟩) S.ek hx a2 ⟨o,o1,o2⟩ fun h' hv hs=>q _ h' _ y (S.obj e2 rfl a1 hs ?_)
  apply bc;intro ng
  obtain ⟨o',z1,z2⟩:=hv
  apply ng;clear ng
  exact ⟨some V,⟨V,rfl,d⟩,o',z1,z2⟩
theorem gO {o:Obj} {Fs:List (Str×Value)} (N:jO o Fs) (name:Str):lookIn name o=some (Fs.lookup name):=by
 apply bc;intro ng
 obtain ⟨es,ep,hd,hk,hf,_⟩:=N
 apply ng;clear ng
 unfold lookIn
 refine aa hd ?_
 dsimp only
 have q:=hf name
 unfold nsFind findBy at q
 rw [<- Array.find?_toList] at q
 induction e:es.toList.find? (·.key.isStr name) with
 | some en=>rw [e] at q; simp at q; exact aa (Eq.symm q) rfl
 | none =>
  rw [e] at q
  simp at q
  refine aa (Eq.symm q) ?_
  dsimp only
  rw [if_neg]
  intro z
  apply bc;intro ng
  obtain ⟨en,m,r⟩:=List.any_eq_true.mp z
  obtain ⟨nn,t,hkk⟩:=hk en (Array.mem_toList_iff.mp m)
  apply ng;clear ng
  simp [DictEntry.refKey,hkk] at r
theorem kf (S:SR w ρ O G env h s as) {i:Nat} {x:Addr} {q:Addr×Nat×List (Str×AV)} (ex:as[i]? = some x) (e:xI s i=some q) :
  ∃dx Fs o,as[q.2.1]? = some dx/\s.at q.2.1=some (.ns q.2.2)/\h.get? dx=some o/\jO o Fs/\All2 (Nm ρ as) q.2.2 Fs/\InstAt h x (instObj q.1 dx) q.1 (some o):=by
 apply bc;intro ng
 obtain ⟨p,e1,e⟩:=az e
 obtain ⟨fs,e2,e⟩:=gR e
 subst e
 obtain ⟨dx,a2,o1,a3,a4⟩:=S.vw (c:=fun p:Addr×Nat=>.inst p.1 p.2) oP e1 ex
 obtain ⟨Fs,b2,o,b3,b4⟩:=S.vw (c:=.ns) pq e2 a2
 obtain ⟨o2,e2,e3⟩:=az e2
 rw [pq e3] at e2
 have a4:o1=instObj p.1 dx:=a4
 subst a4
 apply ng;clear ng
 exact ⟨dx,Fs,o,a2,e2,b3,b4,b2,⟨a3,rfl,rfl,b3⟩⟩
structure Plain (P:Params) (C:Addr):Prop where
 ga:findIn (K P) (.ref C) (Str.ofString "__getattribute__")=some (some (.builtin "object.__getattribute__"))
 gt:findIn (K P) (.ref C) (Str.ofString "__getattr__")=some none
 sa:findIn (K P) (.ref C) (Str.ofString "__setattr__")=some (some (.builtin "object.__setattr__"))
 ov:plainOver (K P) C=true
 hd:∃cd,clsIn (K P) C=some cd/\cd.hasDict=true
theorem iC {P:Params} {C:Addr} (e:dX P C=true):Plain P C:=by
 unfold dX at e
 simp only [Bool.and_eq_true,beq_iff_eq] at e
 obtain ⟨⟨⟨⟨a,b⟩,c⟩,d⟩,e⟩:=e
 exact ⟨a,b,c,d,any_some e⟩
theorem kW {P:Params} {C:Addr} {o:Obj} {Fs:List (Str×Value)} {name:Str} {V:Value} (p:Plain P C) (hf:findIn (K P) (.ref C) name=some none) (N:jO o Fs) (e:Fs.lookup name=some V) :
  findObj (K P) C (some o) name=some (.value V):=by
 apply bc;intro ng
 obtain ⟨cd,hc,hd⟩:=p.hd
 apply ng;clear ng
 unfold findObj
 simp only [hc,hf,Option.bind_some,PySem.W.ownOf,hd,gO N,e,if_true]
theorem kU {P:Params} {C:Addr} {o:Obj} {Fs:List (Str×Value)} {name:Str} {i:Int} {t:Tok} (p:Plain P C) (hf:findIn (K P) (.ref C) name=some (some (.int i t))) (hg:specialIn (K P) (.int i t) (Str.ofString "__get__")=some none)
  (hn:copiedNames.contains name=false) (N:jO o Fs) (e:Fs.lookup name=none):findObj (K P) C (some o) name=some (.value (.int i t)):=by
 apply bc;intro ng
 obtain ⟨cd,hc,hd⟩:=p.hd
 apply ng;clear ng
 have hg':specialIn (K P) (.int i t) "__get__" = some none:=hg
 unfold findObj
 simp only [hc,hf,Option.bind_some,hg',PySem.W.ownOf,hd,gO N,e,if_true,hn,Bool.false_and,Bool.false_eq_true,if_false,handedIn]
theorem qY {v:AV} {V:Value} (d:Dn ρ as v V) (e:v.told=true):handedIn V=true:=by
 induction v using AV.casesOn <;> try exact bG e
 ·have d:V=_:=d
  subst d; rfl
 ·have d:V=_:=d
  subst d; rfl
 ·obtain ⟨_,rfl⟩:=d; rfl
 ·obtain ⟨_,rfl⟩:=d; rfl
 ·obtain ⟨_,_,rfl⟩:=d; rfl
theorem EX {v:Value} {p:Int×Tok} (h:zN v=some p):v = .int p.1 p.2:=by induction v using Value.casesOn <;> first | exact congrArg (fun p:Int×Tok=>Value.int p.1 p.2) (aG h) | exact ap h
theorem iN {a:AV} {V:Value} {name:Str} {k:AV->St->Tr} {ex:Bool} {Q:Value->Shared->Prop} (y:(oA w.params a name s k).ok ρ post) (S:SR w ρ O G env h s as) (d:Dn ρ as a V)
  (q:∀v V n',(k v s).ok ρ post->Dn ρ as v V->Q V ⟨h,gs,dr,n',os⟩):wpAny (model pr w) A (getAttr V name ex) Q E ⟨h,gs,dr,n,os⟩:=by
 apply bc;intro ng
 obtain ⟨i,ei,y⟩:=af y
 rw [bM ei] at d
 obtain ⟨x,ex,rfl⟩:=d
 obtain ⟨r,er,y⟩:=af y
 obtain ⟨dx,Fs,o,a2,-,a4,N,B,I⟩:=kf S ex er
 obtain ⟨hp,y⟩:=aj y
 have p:=iC hp
 have z:=bn B (n:=name)
 obtain ⟨f,hf,y⟩:=af y
 apply ng;clear ng
 induction f with
 | none =>
  apply bc;intro ng
  obtain ⟨v,hl,y⟩:=af y
  obtain ⟨ht,y⟩:=aj y
  rw [hl] at z
  obtain ⟨V,z1,z2⟩:=z
  apply ng;clear ng
  exact get_value (s:=⟨h,gs,dr,n,os⟩) S.k I p.ga (kW p hf N z1) (qY z2 ht) (q _ _ _ y z2)
 | some u =>
  apply bc;intro ng
  obtain ⟨m,hm,y⟩:=af y
  obtain ⟨hc,y⟩:=aj y
  apply ng;clear ng
  rw [EX hm] at hf
  rw [Option.isNone_iff_eq_none.mp (ag (ag hc))] at z
  exact get_value (s:=⟨h,gs,dr,n,os⟩) S.k I p.ga (kU p hf (aD (au (ag hc))) (iw (au hc)) N z) rfl (q _ _ _ y ⟨_,rfl⟩)
theorem iM {β:Type} {name:Str} {v:β}:∀{fs:List (Str×β)} (x:Str),(rg fs name v).lookup x=if x=name then some v else fs.lookup x:=by
 intro fs x
 unfold rg
 split
 ·rename_i h
  have key:∀l:List (Str×β),(l.map fun p=>if p.1 == name then (p.1,v) else p).lookup x=if x=name then (if (l.lookup name).isSome=true then some v else none) else l.lookup x:=by
   intro l
   induction l with
   | nil=>simp
   | cons p r ih =>
    obtain ⟨n,u⟩:=p
    simp only [List.map_cons,List.lookup]
    by_cases hn:n=name
    ·subst hn
     simp only [beq_self_eq_true,if_true]
     by_cases hx:x=n
     ·subst hx; simp
     ·have:(x == n)=false:=beq_eq_false_iff_ne.mpr hx
      simp only [this,if_neg hx] at ih ⊢; exact ih
    ·have h1:(n == name)=false:=beq_eq_false_iff_ne.mpr hn
     have h2:(name == n)=false:=beq_eq_false_iff_ne.mpr fun e=>hn e.symm
     simp only [h1,h2,Bool.false_eq_true,if_false]
     by_cases hx:x=n
     ·subst hx; simp [hn]
     ·have:(x == n)=false:=beq_eq_false_iff_ne.mpr hx
      simp only [this]; exact ih
  rw [key,h]; simp
 ·simp only [List.lookup]
  by_cases hx:x=name
  ·subst hx; simp
  ·have:(x == name)=false:=beq_eq_false_iff_ne.mpr hx
   simp [this,hx]
theorem vT {β:Type} {Fs:List (Str×β)} {name:Str} {v:β}:(rg Fs name v).length<=Fs.length + 1:=by unfold rg; split <;> simp
theorem All2.map' {α β:Type} {R:α->β->Prop} {f:α->α} {g:β->β} (k:∀a b,R a b->R (f a) (g b)) {l:List α} {m:List β} (x:All2 R l m):All2 R (l.map f) (m.map g):=by
 induction x with | nil=>exact .nil | cons h _ ih=>exact .cons (k _ _ h) ih
theorem wJ {fs:List (Str×AV)} {Fs:List (Str×Value)} (B:All2 (Nm ρ as) fs Fs) {name:Str} {v:AV} {V:Value} (d:Dn ρ as v V):All2 (Nm ρ as) (rg fs name v) (rg Fs name V):=by
 have e:(fs.lookup name).isSome=(Fs.lookup name).isSome:=by
  have z:=bn B (n:=name)
  induction q:fs.lookup name with
  | none=>rw [q] at z; refine aa z ?_; rfl
  | some u=>rw [q] at z; obtain ⟨V,z,-⟩:=z; refine aa z ?_; rfl
 unfold rg
 refine aa e ?_
 split
 ·refine B.map' fun a b h=>?_
  refine aa h.1 ?_
  split
  ·exact ⟨rfl,d⟩
  ·exact h
 ·exact .cons ⟨rfl,d⟩ B
theorem nJ {o:Obj} {Fs:List (Str×Value)} {name:Str} {hash:Int} {tk:Tok} {v:Value} (N:jO o Fs):jO (Obj.putName name hash (.str name tk) v o) (rg Fs name v):=by
 apply bc;intro ng
 obtain ⟨es,ep,hd,hk,hm,hz⟩:=N
 obtain ⟨c,d,dt,sl⟩:=o
 apply ng;clear ng
 dsimp only at hd
 subst hd
 have hl:((Fs.lookup name).isSome=true)↔(es.findIdx? (·.key.isStr name)).isSome=true:=by
  refine aa (Eq.symm (hm name)) ?_; unfold nsFind findBy
  refine aa Option.isSome_map ?_
  simp only [Array.find?_isSome,Array.findIdx?_isSome,Array.any_eq_true']
 induction hi:es.findIdx? (·.key.isStr name) with
 | some i =>
  have hs:(Fs.lookup name).isSome=true:=hl.mpr (by refine aa hi ?_; rfl)
  refine ⟨es.modify i fun e=>{ e with val:=v },ep,by simp only [Obj.putName_eq,Obj.putNameByArray,hi],hk.modify _ _,fun x=>?_,?_⟩
  ·rw [iM,<- hm]; exact findBy_modify (fun n v=>v.isStr n) Value.isStr_inj es name x v i hi
  ·unfold rg; refine aa (if_pos hs) ?_; simpa using hz
 | none =>
  have hs:¬(Fs.lookup name).isSome=true:=fun z=>by have:=hl.mp z; rw [hi] at this; exact bG this
  refine ⟨es.push ⟨hash,.str name tk,v⟩,ep + 1,by simp only [Obj.putName_eq,Obj.putNameByArray,hi],hk.push _ _ _ _,fun x=>?_,?_⟩
  ·rw [iM,<- hm]
   exact findBy_push (fun n v=>v.isStr n) es name x _ _ v (fun y=>by
    show (name == y)=decide (y=name)
    by_cases h:y=name
    ·subst h; simp
    ·have:¬name=y:=fun e=>h e.symm
     simp [h,this]) hi
  ·unfold rg; refine aa (if_neg hs) ?_; simp; omega
theorem nc {x dx C:Addr} {o:Obj} {Fs:List (Str×Value)} {name:Str} {v:Value} {Q:Unit->Shared->Prop} (X:(K w.params).In h) (I:InstAt h x (instObj C dx) C (some o)) (p:Plain w.params C) (ht:takerIn (K w.params) C name=some none)
  (N:jO o Fs) (hz:Fs.length < 900) (q:∀h' o' n',Heap.SameBut dx h h'->h'.get? dx=some o'->jO o' (rg Fs name v)->Q () ⟨h',gs,dr,n',os⟩):wpAny (model pr w) A (setAttr (.ref x) name v) Q E ⟨h,gs,dr,n,os⟩:=by
 refine set_plain (s:=⟨h,gs,dr,n,os⟩) X I p.sa ?_
 refine osa_open (s:=⟨h,gs,dr,n + 1,os⟩) X I p.ov ht fun b=>?_
 apply bc;intro ng
 obtain ⟨cd,hc,hd⟩:=p.hd
 have hx:h.get? x=some (instObj C dx):=I.at_
 have D:h.get? dx=some o:=I.dict
 have N':=nJ (name:=name) (hash:=PyData.keyHash w.params name) (tk:=n + 1) (v:=v) N
 obtain ⟨es,ep,e1,e2,e3,e4⟩:=id N
 obtain ⟨es',ep',f1,f2,f3,f4⟩:=id N'
 apply ng;clear ng
 have U:(h.update dx (Obj.putName name (PyData.keyHash w.params name) (.str name (n + 1)) v)).get? dx=some (Obj.putName name (PyData.keyHash w.params name) (.str name (n + 1)) v o):=Heap.get?_update_self _ D (Obj.isFreed_of_dict f1)
 refine wpAny_bind (wpAny_pure (wpAny_bind (wpAny_bind (wpAny_loadPart hx (wpAny_bind ((looks_clsIn X hc).here ?_))))))
 refine aa hd ?_
 refine wpAny_pure (a:=some dx) (wpAny_bind (wpAny_pure (wpAny_bind ?_)))
 unfold nsSet
 refine wpAny_bind (wpAny_bind (wpAny_askSetting (wpAny_pure (wpAny_bind (wpAny_mkText (wpAny_bind (wpAny_loadPart D ?_)))))))
 have hany:es.any (·.refKey)=false:=by
  rw [Array.any_eq_false']; intro e he; obtain ⟨n,t,h⟩:=e2 e he; simp [DictEntry.refKey,h]
 refine aa e1 ?_
 dsimp only
 rw [aRefKeyMayBeTheName_at,hany,Bool.and_false]
 refine wpAny_updatePart D ?_
 refine wpAny_bind (wpAny_lookBehind U (by refine aa f1 ?_; exact pastItsLine_dict (by have:=vT (Fs:=Fs) (name:=name) (v:=v); refine aa sizeLine_eq ?_; (first | decide | lia | omega))) ?_)
 exact wpAny_pure (q _ _ _ (Heap.SameBut.update ..) U N')
theorem ew {a v:AV} {V U:Value} {name:Str} {k:St->Tr} {Q:Unit->Shared->Prop} (y:(f7 w.params a name v s k).ok ρ post) (S:SR w ρ O G env h s as) (d:Dn ρ as a V) (d':Dn ρ as v U)
  (q:∀s' h' n',(k s').ok ρ post->SR w ρ O G env h' s' as->Q () ⟨h',gs,dr,n',os⟩):wpAny (model pr w) A (setAttr V name U) Q E ⟨h,gs,dr,n,os⟩:=by
 apply bc;intro ng
 obtain ⟨i,ei,y⟩:=af y
 rw [bM ei] at d
 obtain ⟨x,ex,rfl⟩:=d
 obtain ⟨r,er,y⟩:=af y
 obtain ⟨fs,ej,y⟩:=af y
 obtain ⟨hp,y⟩:=aj y
 obtain ⟨dx,Fs,o,a2,a3,a4,N,B,I⟩:=kf S ex er
 obtain ⟨o',ej,eo⟩:=az ej
 apply ng;clear ng
 rw [pq eo] at ej
 have a3:(s.ob[r.2.1]?).map AO.view=some (.ns r.2.2):=a3
 rw [ej] at a3
 have a3:AO.ns fs = .ns r.2.2:=aG a3
 have a3:fs=r.2.2:=AO.ns.inj a3
 rw [<- a3] at B
 refine nc S.k I (iC (ag (ag hp))) (aD (au (ag hp))) N (by have:=of_decide_eq_true (au hp); rw [B.len] at this; (first | lia | omega)) fun h' o' n' hs ho' N'=>?_
 exact q _ _ _ y (S.obj ej rfl a2 hs ⟨_,wJ B d',o',ho',N'⟩)
theorem xz {k:Int} {len j:Nat} (e:seqIndex? k len=some j) (hk:k < 0) : -(len:Int)<=k/\(k + len).toNat=j:=by
 unfold seqIndex? at e
 rw [if_pos hk] at e
 dsimp only at e
 split at e
 ·rename_i q; cases e; simp only [Bool.and_eq_true,decide_eq_true_eq] at q; (first | lia | omega)
 ·exact ap e
theorem wS {k:Int} {len j:Nat} (e:seqIndex? k len=some j) (hk:¬k < 0):k.toNat=j:=by
 unfold seqIndex? at e
 rw [if_neg hk] at e
 dsimp only at e
 split at e
 ·cases e; rfl
 ·exact ap e
theorem All2.take {α β:Type} {R:α->β->Prop} {l:List α} {m:List β} (x:All2 R l m):∀n,All2 R (l.take n) (m.take n):=by
 induction x with
 | nil=>intro n; simp; exact .nil
 | cons h t ih=>intro n; induction n using Nat.casesOn with | zero=>exact .nil | succ n=>simpa using All2.cons h (ih n)
theorem All2.set {α β:Type} {R:α->β->Prop} {l:List α} {m:List β} (x:All2 R l m):∀{i:Nat} {a:α} {b:β},R a b->All2 R (l.set i a) (m.set i b):=by
 induction x with
 | nil=>intro i a b _; simp; exact .nil
 | cons h t ih=>intro i a b r; induction i using Nat.casesOn with | zero=>exact .cons r t | succ i=>exact .cons h (ih r)
theorem ik {P:Prop} {e:IE} {k:Nat->St->Tr}:∀{m:Nat} {s:St},SR w ρ O G env h s as->(qc e k m s).ok ρ post->
  (∀i s',s'.ob=s.ob/\i < m->e.den ρ=(i:Int)->(k i s').ok ρ post->SR w ρ O G env h s' as->P)->P
 | 0,_,_,y,_=>y.elim
 | m + 1,s,S,y,q=>by
  unfold qc at y
  refine nX S y fun b s' eb hob y S'=>?_
  induction b with
  | true=>exact q m s' ⟨hob,Nat.lt_succ_self m⟩ (eb.mpr rfl) y S'
  | false=>exact ik S' y fun i s'' hi=>q i s'' ⟨hi.1.trans hob,Nat.lt_succ_of_lt hi.2⟩
theorem dG {slice:Expr} (hs:cu slice=false) (o i:Value):subscripted slice false o i=operate [o,i] (getItem o i):=by
 cases slice <;> first | rfl | cases hs
theorem qU {x:Addr} {Vs:List Value} {m:Nat} {v:AV} {vs:List AV} {z:Int} {t:Tok} {Q:Value->Shared->Prop} (l:h.IsList x Vs.toArray) (a2:All2 (Dn ρ as) vs Vs) (em:seqIndex? z vs.length=some m) (ev:vs[m]? = some v) (hz:z.natAbs < 2 ^ 60)
  (q:∀V,Dn ρ as v V->Q V ⟨h,gs,dr,n,os⟩):wpAny (model pr w) A (getItem (.ref x) (.int z t)) Q E ⟨h,gs,dr,n,os⟩:=by
 apply bc;intro ng
 obtain ⟨X,x1,x2⟩:=a2.get ev
 apply ng;clear ng
 by_cases hk:z < 0
 ·obtain ⟨z1,z2⟩:=xz em hk
  rw [a2.len] at z1 z2
  exact wpAny_getItem_list_neg (s:=⟨h,gs,dr,n,os⟩) l hk (by simpa using z1) (by (first | lia | omega)) (x:=X) (by simp only [List.size_toArray]; refine aa z2 ?_; simpa using x1) (q _ x2)
 ·exact wpAny_getItem_list (s:=⟨h,gs,dr,n,os⟩) l (by (first | lia | omega)) (by (first | lia | omega)) (x:=X) (by refine aa (wS em hk) ?_; simpa using x1) (q _ x2)
theorem o7 {V U:Value} {i:AV} {a:AV} {k:AV->St->Tr} {Q:Value->Shared->Prop} (y:(kZ a i s k).ok ρ post) (S:SR w ρ O G env h s as) (d:Dn ρ as a V) (d':Dn ρ as i U)
  (q:∀v V s' n',(k v s').ok ρ post->SR w ρ O G env h s' as->Dn ρ as v V->Q V ⟨h,gs,dr,n',os⟩):wpAny (model pr w) A (getItem V U) Q E ⟨h,gs,dr,n,os⟩/\∃T id,Shared.TypeIs ⟨h,gs,dr,n,os⟩ V T/\typeLookup (.type T) (Str.ofString "__getitem__")=pure (some (.builtin id)):=by
 apply bc;intro ng
 obtain ⟨j,ej,y⟩:=af y
 obtain ⟨ie,ei,y⟩:=af y
 rw [bM ej] at d; rw [cO ei] at d'
 obtain ⟨x,ex,rfl⟩:=d
 obtain ⟨t,rfl⟩:=d'
 apply ng;clear ng
 apply bc;intro ng
 rcases cG y with ⟨z,ez,y⟩ | ⟨-,y⟩ <;> refine ng ?_ <;> clear ng
 ·refine aa (bO ez) ?_
  apply bc;intro ng
  obtain ⟨hn,y⟩:=aj y
  apply ng;clear ng
  have hn:=of_decide_eq_true hn
  apply bc;intro ng
  rcases cG y with ⟨vs,e,y⟩ | ⟨-,y⟩ <;> refine ng ?_ <;> clear ng
  ·obtain ⟨Vs,a2,a3⟩:=S.vw (c:=.lst) cy e ex
   apply bc;intro ng
   obtain ⟨m,em,y⟩:=af y
   obtain ⟨v,ev,y⟩:=af y
   apply ng;clear ng
   have l:h.IsList x Vs.toArray:=a3
   exact ⟨qU l a2 em ev hn fun V d=>q _ _ _ _ y S d,_,_,l.typeIs (s:=⟨h,gs,dr,n,os⟩),slot_list_getitem.lookup⟩
  ·obtain ⟨vs,e,y⟩:=af y
   apply bc;intro ng
   obtain ⟨Vs,a2,a3⟩:=S.vw (c:=.tup) cX e ex
   obtain ⟨m,em,y⟩:=af y
   obtain ⟨v,ev,y⟩:=af y
   obtain ⟨X,x1,x2⟩:=a2.get ev
   apply ng;clear ng
   have l:IsTup h x Vs.toArray:=a3
   refine ⟨?_,_,_,l.typeIs (s:=⟨h,gs,dr,n,os⟩),slot_tuple_getitem.lookup⟩
   show wpAny (model pr w) A (getItem (.ref x) (.int z t)) Q E _
   exact getItem_tuple (s:=⟨h,gs,dr,n,os⟩) l (by omega) (by omega) (by simp only [List.size_toArray]; refine aa (Eq.symm a2.len) ?_; exact em) (x:=X) (by simpa using x1) (q _ _ _ _ y S x2)
 ·obtain ⟨vs,e,y⟩:=af y
  apply bc;intro ng
  obtain ⟨Vs,a2,a3⟩:=S.vw (c:=.lst) cy e ex
  apply ng;clear ng
  have l:h.IsList x Vs.toArray:=a3
  refine ⟨?_,_,_,l.typeIs (s:=⟨h,gs,dr,n,os⟩),slot_list_getitem.lookup⟩
  apply bc;intro ng
  obtain ⟨hn,y⟩:=aj y
  apply ng;clear ng
  have hn:=of_decide_eq_true hn
  refine ik S y fun m s' hm ei y S'=>?_
  apply bc;intro ng
  obtain ⟨v,ev,y⟩:=af y
  obtain ⟨X,x1,x2⟩:=a2.get ev
  apply ng;clear ng
  refine aa ei ?_
  have hm:=hm.2
  exact wpAny_getItem_list (s:=⟨h,gs,dr,n,os⟩) l (by omega) (by omega) (x:=X) (by simpa using x1) (q _ _ _ _ y S' x2)
theorem kY {value slice:Expr} {a i:AV} {V U:Value} {k:AV->St->Tr} {Q:Value->Shared->Prop} (hs:cu slice=false) (y:(kZ a i s k).ok ρ post) (S:SR w ρ O G env h s as) (d:Dn ρ as a V) (d':Dn ρ as i U)
  (q:∀v V s' n',(k v s').ok ρ post->SR w ρ O G env h s' as->Dn ρ as v V->Q V ⟨h,gs,dr,n',os⟩):wpAny (model pr w) A (subscriptTail value slice V U) Q E ⟨h,gs,dr,n,os⟩:=by
 apply bc;intro ng
 obtain ⟨z,T,id,ht,hl⟩:=o7 (A:=A) (E:=E) (n:=n) y S d d' q
 apply ng;clear ng
 exact tail_any (s:=⟨h,gs,dr,n,os⟩) ht hl z (dG hs _ _)
theorem B0 {o:AO} {vs:List AV} (h:o.mut? = some vs):o = .lst vs\/o = .pl vs:=by induction o using AO.casesOn <;> first | exact .inl (congrArg AO.lst (aG h)) | exact .inr (congrArg AO.pl (aG h)) | exact ap h
theorem dW {a i v:AV} {V U X:Value} {k:St->Tr} {Q:Unit->Shared->Prop} (y:(f8 a i v s k).ok ρ post) (S:SR w ρ O G env h s as) (d:Dn ρ as a V) (d':Dn ρ as i U) (d'':Dn ρ as v X)
  (q:∀s' h' n',(k s').ok ρ post->SR w ρ O G env h' s' as->Q () ⟨h',gs,dr,n',os⟩):wpAny (model pr w) A (setItem V U X) Q E ⟨h,gs,dr,n,os⟩:=by
 apply bc;intro ng
 obtain ⟨j,ej,y⟩:=af y
 obtain ⟨ie,ei,y⟩:=af y
 rw [bM ej] at d; rw [cO ei] at d'
 obtain ⟨x,ex,rfl⟩:=d
 obtain ⟨t,rfl⟩:=d'
 obtain ⟨vs,e,y⟩:=af y
 obtain ⟨hn,y⟩:=aj y
 have hn:=of_decide_eq_true hn
 obtain ⟨o,e,e2⟩:=az e
 obtain ⟨ow,Vs,a2,l⟩:o.own=true/\∃Vs,All2 (Dn ρ as) vs Vs/\h.IsList x Vs.toArray:=by
  obtain ⟨x',a1,a2,-⟩:=S.get e
  rw [ex] at a1
  rw [<- aG a1] at a2
  rcases B0 e2 with z | z
  ·rw [z] at a2 ⊢; exact ⟨rfl,a2⟩
  ·rw [z] at a2 ⊢; exact ⟨rfl,aN.pl a2⟩
 apply ng;clear ng
 refine ik S y fun m s' hm ei y S'=>?_
 apply bc;intro ng
 obtain ⟨e2,hlt⟩:=hm
 apply ng;clear ng
 refine aa ei ?_
 refine wpAny_setItem_list (s:=⟨h,gs,dr,n,os⟩) l (by (first | lia | omega)) (by (first | lia | omega)) (by have:=a2.len; simp; (first | lia | omega)) fun h' hl hs=>?_
 have hl':h'.IsList x (Vs.set m X).toArray:=by
  have z:(Vs.toArray.setIfInBounds (m:Int).toNat X)=(Vs.set m X).toArray:=by simp
  rw [z] at hl; exact hl
 exact q _ _ _ y (S'.obj (o':=.lst (vs.set m v)) (by refine aa e2 ?_; exact e) ow ex hs ⟨Vs.set m X,a2.set d'',hl'⟩)
theorem lM {op:Operator} {a b:AV} {k:AV->St->Tr} {V U:Value} {Q:Value->Shared->Prop} (y:(td op a b s k).ok ρ post) (d:Dn ρ as a V) (d':Dn ρ as b U)
  (q:∀v V n',(k v s).ok ρ post->Dn ρ as v V->Q V ⟨h,gs,dr,n',os⟩):wpAny (model pr w) A (inplaceOp op V U) Q E ⟨h,gs,dr,n,os⟩:=by
 induction op using Operator.casesOn <;> try exact y.elim
 obtain ⟨p,e,y⟩:=af y
 obtain ⟨t,u,rfl,rfl⟩:=bF e d d'
 exact Aw fun t n'=>q _ _ n' y ⟨t,by exact aa lg rfl⟩
theorem aN.lt {a:Addr} {o:AO} (x:aN ρ as h.get? a o):a < h.objs.size:=by
 induction o using AO.casesOn with
 | lst vs=>obtain ⟨_,_,y⟩:=x; exact y.lt
 | tup vs=>obtain ⟨_,_,y⟩:=x; exact y.lt
 | ns vs=>obtain ⟨_,_,y⟩:=x; exact y.lt
 | inst C j=>obtain ⟨_,_,y⟩:=x; exact y.lt
 | cell v=>obtain ⟨_,_,y⟩:=x; exact y.lt
 | il b es=>obtain ⟨_,_,y⟩:=x; exact y.lt
 | raw t=>exact At.lt x
 | pl vs=>obtain ⟨_,_,y⟩:=x; exact y.lt
 | rf b=>exact At.lt x
 | dc ps=>obtain ⟨_,_,_,_,y,_⟩:=x; exact Heap.lt_size y
 | _=>exact x.elim
theorem aC.lt {a:Addr} {o:AO} (x:aC ρ O as h a o) (ow:o.own=true):a < h.objs.size:=by
 induction o using AO.casesOn with
 | opq k=>exact bG ow
 | dead=>exact bG ow
 | fz o=>exact bG ow
 | lit j i=>obtain ⟨_,_,_,y,_⟩:=x; exact Heap.lt_size y
 | tit j i=>obtain ⟨_,_,_,y,_⟩:=x; exact Heap.lt_size y
 | lst vs=>exact aN.lt (o:=.lst vs) x
 | tup vs=>exact aN.lt (o:=.tup vs) x
 | ns vs=>exact aN.lt (o:=.ns vs) x
 | inst C j=>exact aN.lt (ρ:=ρ) (o:=.inst C j) x
 | cell v=>exact aN.lt (o:=.cell v) x
 | il b es=>exact aN.lt (as:=as) (o:=.il b es) x
 | raw t=>exact aN.lt (ρ:=ρ) (as:=as) (o:=.raw t) x
 | pl vs=>exact aN.lt (o:=.pl vs) x
 | rf b=>exact aN.lt (ρ:=ρ) (as:=as) (o:=.rf b) x
 | dc ps=>exact aN.lt (o:=.dc ps) x
noncomputable def iI (G:Gr) (h:Heap) (L:Addr):Gr:=fun b=>if b=L then h.get? L else G b
theorem iI.sub {G:Gr} {h:Heap} {L:Addr} (f:G L=none):∀a o,G a=some o->iI G h L a=some o:=fun a o e=>by
 unfold iI; split
 ·rename_i q; rw [q,f] at e; exact ap e
 ·exact e
theorem SR.co {w:World} {ρ:Rho} {O:Opq} {G:Gr} {env:Env} {h:Heap} {s:St} {as:List Addr} (S:SR w ρ O G env h s as):Co w ρ O (iI G h env.locals) h s.ob s.pc as:=by
 have sub:=iI.sub (h:=h) S.fL
 refine ⟨?_,fun a o e=>?_,fun a o e=>sub a o (S.og a o e),S.sz,fun i o a e e'=>?_,S.nd,S.pc⟩
 ·obtain ⟨hb,W,kb⟩:=S.bs
  exact ⟨hb,W,fun a o e=>sub a o (kb a o e)⟩
 ·unfold iI at e; split at e
  ·rename_i q; refine aa q ?_; exact e
  ·exact S.kp a o e
 ·obtain ⟨x,y⟩:=S.ob i o a e e'
  refine ⟨x,fun ow=>?_⟩
  unfold iI; refine aa (if_neg (y ow).1) ?_; exact (y ow).2
theorem SR.back {w:World} {ρ:Rho} {O:Opq} {G:Gr} {env:Env} {h h':Heap} {s s':St} {as as':List Addr} (S:SR w ρ O G env h s as) (C:Co w ρ O (iI G h env.locals) h' s'.ob s'.pc as')
  (p:Pre as as') (e1:s'.ls=s.ls) (e2:s'.cl=s.cl):SR w ρ O G env h' s' as':=by
 apply bc;intro ng
 obtain ⟨f,⟨oL,es,ep,l2,l3⟩,l1⟩:=S.lc
 apply ng;clear ng
 have sub:=iI.sub (h:=h) S.fL
 have gL:iI G h env.locals env.locals=some oL:=by unfold iI; rw [if_pos rfl]; exact l2
 refine ⟨S.bs,fun a o e=>C.kp a o (sub a o e),S.og,S.fL,S.eg,S.eb,S.ek,⟨f,⟨oL,es,ep,C.kp _ _ gL,l3⟩,fun x v e=>?_⟩,fun x i e=>?_,C.sz,fun i o a e e'=>?_,C.nd,C.pc⟩
 ·rw [e1] at e
  apply bc;intro ng
  obtain ⟨V,z1,z2⟩:=l1 x v e
  apply ng;clear ng
  exact ⟨V,z1,z2.pre p⟩
 ·rw [e2] at e
  apply bc;intro ng
  obtain ⟨a,z1,z2⟩:=S.cc x i e
  apply ng;clear ng
  exact ⟨a,p.get z1,z2⟩
 ·obtain ⟨x,y⟩:=C.ob i o a e e'
  refine ⟨x,fun ow=>?_⟩
  have z:=y ow
  unfold iI at z
  split at z
  ·rw [l2] at z; cases z
  ·rename_i q; exact ⟨q,z⟩
theorem Co.push {h:Heap} {ob:List AO} {pc:List (CE×Bool)} {as:List Addr} (S:Co w ρ O G h ob pc as) (o:Obj) {ao:AO} (y:aC ρ O (as++[h.objs.size]) (h.push o) h.objs.size ao):Co w ρ O G (h.push o) (ob++[ao]) pc (as++[h.objs.size]):=by
 have kk:∀a x,h.get? a=some x->(h.push o).get? a=some x:=fun zw zw e=>Heap.get?_push_of_some _ e
 have gn:G h.objs.size=none:=by
  induction q:G h.objs.size with
  | none=>rfl
  | some x=>exact absurd (Heap.lt_size (S.kp _ _ q)) (Nat.lt_irrefl _)
 have cs:∀(i:Nat) x a,(ob++[ao])[i]? = some x->(as++[h.objs.size])[i]? = some a->(ob[i]? = some x/\as[i]? = some a)\/(i=ob.length/\x=ao/\a=h.objs.size):=fun i x a e e'=>by
  by_cases hi:i < ob.length
  ·rw [List.getElem?_append_left hi] at e
   rw [List.getElem?_append_left (by refine aa S.sz ?_; exact hi)] at e'
   exact .inl ⟨e,e'⟩
  ·rw [List.getElem?_append_right (by (first | lia | omega))] at e
   rw [List.getElem?_append_right (by refine aa S.sz ?_; (first | lia | omega))] at e'
   have h0:i - ob.length=0:=by
    have:=(List.getElem?_eq_some_iff.mp e).1; simp at this; (first | lia | omega)
   have h1:i - as.length=0:=by refine aa S.sz ?_; exact h0
   rw [h0] at e; rw [h1] at e'
   simp at e e'
   exact .inr ⟨by (first | lia | omega),e.symm,e'.symm⟩
 refine ⟨S.bs,fun a x e=>kk _ _ (S.kp a x e),S.og,by simp [S.sz],fun i x a e e'=>?_,fun i j x x' a e1 e2 w1 w2 e3 e4=>?_,S.pc⟩
 ·rcases cs i x a e e' with ⟨f1,f2⟩ | ⟨f1,rfl,rfl⟩
  ·obtain ⟨z1,z2⟩:=S.ob i x a f1 f2
   exact ⟨z1.keep ⟨_,rfl⟩ (fun zw x e=>kk _ _ e),z2⟩
  ·exact ⟨y,fun zw=>gn⟩
 ·rcases cs i x a e1 e3 with ⟨f1,f2⟩ | ⟨f1,rfl,rfl⟩
  ·rcases cs j x' a e2 e4 with ⟨g1,g2⟩ | ⟨g1,rfl,rfl⟩
   ·exact S.nd i j x x' a f1 g1 w1 w2 f2 g2
   ·exact absurd ((S.ob i x _ f1 f2).1.lt w1) (Nat.lt_irrefl _)
  ·rcases cs j x' _ e2 e4 with ⟨g1,g2⟩ | ⟨g1,rfl,-⟩
   ·exact absurd ((S.ob j x' _ g1 g2).1.lt w2) (Nat.lt_irrefl _)
   ·(first | lia | omega)
theorem SR.push (S:SR w ρ O G env h s as) (o:Obj) {ao:AO} (y:aC ρ O (as++[h.objs.size]) (h.push o) h.objs.size ao):SR w ρ O G env (h.push o) { s with ob:=s.ob++[ao] } (as++[h.objs.size]):=S.back (S.co.push o y) ⟨_,rfl⟩ rfl rfl
theorem SR.stay (S:SR w ρ O G env h s as) (k:h.StaysIn h'):SR w ρ O G env h' s as:=by
 apply bc;intro ng
 obtain ⟨f,l2,l1⟩:=S.lc
 apply ng;clear ng
 exact ⟨S.bs,fun a o e=>k _ _ (S.kp a o e),S.og,S.fL,S.eg,S.eb,S.ek,⟨f,l2.keeps k,l1⟩,S.cc,S.sz,fun i o a e e'=>⟨((S.ob i o a e e').1).keep .refl (fun zw x ex=>k _ _ ex),(S.ob i o a e e').2⟩,S.nd,S.pc⟩
theorem SR.stayX (S:SR w ρ O G env h s as) (k:Heap.ExtBut h.objs.size h h'):SR w ρ O G env h' s as :=
 S.stay fun b o e=>k b o (Nat.ne_of_lt (Heap.lt_size e)) e
theorem aX {a:Addr}:(as++[a])[as.length]? = some a:=by simp
theorem A4 {vs:List AV} {Vs:List Value} {k:AV->St->Tr} {Q:Value->Shared->Prop} (hz:Vs.length<=1000) (y:(mk (.tup vs) s k).ok ρ post) (S:SR w ρ O G env h s as) (d:All2 (Dn ρ as) vs Vs)
  (q:∀v V s' h' as' n',(k v s').ok ρ post->SR w ρ O G env h' s' as'->Pre as as'->Dn ρ as' v V->Q V ⟨h',gs,dr,n',os⟩):wpAny (model pr w) A (newTuple Vs) Q E ⟨h,gs,dr,n,os⟩:=by
 refine wpAny_newObj_type (s:=⟨h,gs,dr,n,os⟩) ?_ (by show Vs.toArray.size<=sizeLine; refine aa List.size_toArray (aa sizeLine_eq ?_); (first | lia | omega))
 refine q _ _ _ _ _ _ y (S.push _ ⟨Vs,d.mono fun zw zw z=>z.pre ⟨_,rfl⟩,_,Heap.get?_push_size _ rfl,rfl,_,rfl⟩) ⟨_,rfl⟩ ⟨_,?_,rfl⟩
 refine aa (Eq.symm S.sz) ?_; exact aX
theorem AP {vs:List AV} {Vs:List Value} {k:AV->St->Tr} {Q:Value->Shared->Prop} (hz:Vs.length<=1000) (y:(mk (.pl vs) s k).ok ρ post) (S:SR w ρ O G env h s as) (d:All2 (Dn ρ as) vs Vs)
  (q:∀v V s' h' as' n',(k v s').ok ρ post->SR w ρ O G env h' s' as'->Pre as as'->Dn ρ as' v V->Q V ⟨h',gs,dr,n',os⟩):wpAny (model pr w) A (newList Vs) Q E ⟨h,gs,dr,n,os⟩:=by
 refine wpAny_newObj_type (s:=⟨h,gs,dr,n,os⟩) ?_ (by show Vs.toArray.size<=sizeLine; rw [List.size_toArray,sizeLine_eq]; (first | lia | omega))
 refine q _ _ _ _ _ _ y (S.push _ ⟨Vs,d.mono fun zw zw z=>z.pre ⟨_,rfl⟩,_,Heap.get?_push_size _ rfl,_,rfl⟩) ⟨_,rfl⟩ ⟨_,?_,rfl⟩
 rw [<- S.sz]; exact aX
theorem Fe {a b:Addr} {Vs Us:List Value} {Q:Value->Shared->Prop} (t1:IsTup h a Vs.toArray) (t2:IsTup h b Us.toArray) (hz:Vs.length + Us.length<=1000)
  (h0:Vs = []->Q (.ref b) ⟨h,gs,dr,n,os⟩) (h1:Vs≠[]->Us = []->Q (.ref a) ⟨h,gs,dr,n,os⟩) (h2:Vs≠[]->Us≠[]->Q (.ref h.objs.size) ⟨h.push { cls:=.type "tuple",data:=.seq (Vs++Us).toArray },gs,dr,n,os⟩) :
  wpAny (model pr w) A (binaryOp .Add (.ref a) (.ref b)) Q E ⟨h,gs,dr,n,os⟩:=by
 apply bc;intro ng
 obtain ⟨⟨cls,dd,data,sl⟩,ho,hc,m,hd⟩:=id t1
 obtain ⟨⟨cls2,dd2,data2,sl2⟩,ho2,hc2,m2,hd2⟩:=id t2
 simp only at hc hd hc2 hd2
 subst hc hd hc2 hd2
 apply ng;clear ng
 have e:Vs.toArray++Us.toArray=(Vs++Us).toArray:=by simp
 by_cases hv:Vs = []
 ·exact concat_meets (s:=⟨h,gs,dr,n,os⟩) ⟨_,ho,rfl⟩ ⟨_,ho2,rfl⟩ noFill_tuple_add seq_tuple_add PySem.F.slot_tuple_add PySem.F.entry_tuple_add (PySem.F.args_tuple_add_2 _ _)
   (tuple_addW0 a b Vs.toArray Us.toArray m m2 dd dd2 sl sl2 (by simp [hv])) ⟨ho,ho2,h0 hv⟩
 ·by_cases hw:Us = []
  ·exact concat_meets (s:=⟨h,gs,dr,n,os⟩) ⟨_,ho,rfl⟩ ⟨_,ho2,rfl⟩ noFill_tuple_add seq_tuple_add PySem.F.slot_tuple_add PySem.F.entry_tuple_add (PySem.F.args_tuple_add_2 _ _)
    (tuple_addW1 a b Vs.toArray Us.toArray m m2 dd dd2 sl sl2 (by simpa using hv) (by simp [hw])) ⟨ho,ho2,h1 hv hw⟩
  ·refine concat_meets (s:=⟨h,gs,dr,n,os⟩) ⟨_,ho,rfl⟩ ⟨_,ho2,rfl⟩ noFill_tuple_add seq_tuple_add PySem.F.slot_tuple_add PySem.F.entry_tuple_add (PySem.F.args_tuple_add_2 _ _)
    (tuple_addW2 a b Vs.toArray Us.toArray m m2 dd dd2 sl sl2 (by simpa using hv) (by simpa using hw) (by refine aa List.size_toArray (aa List.size_toArray (aa sizeLine_eq ?_)); (first | lia | omega))) ⟨ho,ho2,?_⟩
   refine aa e ?_
   exact h2 hv hw
theorem u5 {a b:Addr} {Vs Us:List Value} {Q:Value->Shared->Prop} (t1:h.IsList a Vs.toArray) (t2:h.IsList b Us.toArray) (hz:Vs.length + Us.length<=3000)
  (h2:Q (.ref h.objs.size) ⟨h.push { cls:=.type "list",data:=.seq (Vs++Us).toArray },gs,dr,n,os⟩) :
  wpAny (model pr w) A (binaryOp .Add (.ref a) (.ref b)) Q E ⟨h,gs,dr,n,os⟩:=by
 apply bc;intro ng
 obtain ⟨⟨cls,dd,data,sl⟩,ho,hc,m,hd⟩:=id t1
 obtain ⟨⟨cls2,dd2,data2,sl2⟩,ho2,hc2,m2,hd2⟩:=id t2
 simp only at hc hd hc2 hd2
 subst hc hd hc2 hd2
 apply ng;clear ng
 have e:Vs.toArray++Us.toArray=(Vs++Us).toArray:=by simp
 refine concat_meets (s:=⟨h,gs,dr,n,os⟩) ⟨_,ho,rfl⟩ ⟨_,ho2,rfl⟩ noFill_list_add seq_list_add PySem.F.slot_list_add PySem.F.entry_list_add (PySem.F.args_list_add_2 _ _)
  (list_addW a b Vs.toArray Us.toArray m m2 dd dd2 sl sl2 (by refine aa List.size_toArray (aa List.size_toArray (aa sizeLine_eq ?_)); (first | lia | omega))) ⟨ho,ho2,?_⟩
 refine aa e ?_
 exact h2
theorem xG {i j:Nat} {a b:Addr} {k:AV->St->Tr} {Q:Value->Shared->Prop} (y:(EL i j s k).ok ρ post) (S:SR w ρ O G env h s as) (e1:as[i]? = some a) (e2:as[j]? = some b)
  (q:∀v V s' h' as' n',(k v s').ok ρ post->SR w ρ O G env h' s' as'->Pre as as'->Dn ρ as' v V->Q V ⟨h',gs,dr,n',os⟩):wpAny (model pr w) A (binaryOp .Add (.ref a) (.ref b)) Q E ⟨h,gs,dr,n,os⟩:=by
 have fin:∀{o:Obj} {ao:AO},(k (.loc s.ob.length) { s with ob:=s.ob++[ao] }).ok ρ post->aC ρ O (as++[h.objs.size]) (h.push o) h.objs.size ao->Q (.ref h.objs.size) ⟨h.push o,gs,dr,n,os⟩:=fun {o ao} y z =>
  q _ _ _ _ _ _ y (S.push _ z) ⟨_,rfl⟩ ⟨_,by refine aa (Eq.symm S.sz) ?_; exact aX,rfl⟩
 rcases cG y with ⟨p,e,y⟩ | ⟨-,y⟩
 ·obtain ⟨f1,f2⟩:=ah e
  apply bc;intro ng
  obtain ⟨Vs,a2,a3⟩:=S.vw (c:=.tup) cX f1 e1
  obtain ⟨Us,b2,b3⟩:=S.vw (c:=.tup) cX f2 e2
  have l1:=a2.len; have l2:=b2.len
  obtain ⟨hl,y⟩:=aj y
  apply ng;clear ng
  have hl:=of_decide_eq_true hl
  have nz:∀{l:List AV} {m:List Value},l.length=m.length->m = []->l.isEmpty=true:=fun {l m} e z=>by subst z; cases l with | nil=>rfl | cons=>cases e
  have nn:∀{l:List AV} {m:List Value},l.length=m.length->l.isEmpty=true->m = []:=fun {l m} e z=>by rw [List.isEmpty_iff.mp z] at e; exact List.eq_nil_of_length_eq_zero e.symm
  refine Fe (n:=n) a3 b3 (by (first | lia | omega)) (fun hv=>?_) (fun hv hu=>?_) fun hv hu=>?_
  ·rw [nz l1 hv] at y
   exact q _ _ _ _ _ _ y S .refl ⟨_,e2,rfl⟩
  ·rcases cF y with ⟨z,-⟩ | ⟨-,y⟩
   ·exact absurd (nn l1 z) hv
   ·rw [nz l2 hu] at y
    exact q _ _ _ _ _ _ y S .refl ⟨_,e1,rfl⟩
  ·rcases cF y with ⟨z,-⟩ | ⟨-,y⟩
   ·exact absurd (nn l1 z) hv
   ·rcases cF y with ⟨z,-⟩ | ⟨-,y⟩
    ·exact absurd (nn l2 z) hu
    ·exact fin y ⟨Vs++Us,(a2.app b2).mono fun zw zw z=>z.pre ⟨_,rfl⟩,_,Heap.get?_push_size _ rfl,rfl,_,rfl⟩
 ·obtain ⟨p,e,y⟩:=af y
  apply bc;intro ng
  obtain ⟨f1,f2⟩:=ah e
  obtain ⟨Vs,a2,a3⟩:=S.vw (c:=.lst) cy f1 e1
  obtain ⟨Us,b2,b3⟩:=S.vw (c:=.lst) cy f2 e2
  obtain ⟨hl,y⟩:=aj y
  apply ng;clear ng
  have hl:=of_decide_eq_true hl
  exact u5 (n:=n) a3 b3 (by have l1:=a2.len; have l2:=b2.len; (first | lia | omega)) (fin y ⟨Vs++Us,(a2.app b2).mono fun zw zw z=>z.pre ⟨_,rfl⟩,_,Heap.get?_push_size _ rfl,_,rfl⟩)
theorem hY {op:Operator} {a b:AV} {k:AV->St->Tr} {V U:Value} {Q:Value->Shared->Prop} (y:(uw op a b s k).ok ρ post) (S:SR w ρ O G env h s as) (d:Dn ρ as a V) (d':Dn ρ as b U)
  (q:∀v V s' h' as' n',(k v s').ok ρ post->SR w ρ O G env h' s' as'->Pre as as'->Dn ρ as' v V->Q V ⟨h',gs,dr,n',os⟩):wpAny (model pr w) A (binaryOp op V U) Q E ⟨h,gs,dr,n,os⟩:=by
 have q':∀{e:IE} {z:Int} {t n':Tok},(k (.int e) s).ok ρ post->z=e.den ρ->Q (.int z t) ⟨h,gs,dr,n',os⟩:=fun {e z t n'} y e2=>q _ _ _ _ _ n' y S .refl ⟨t,congrArg (fun z=>Value.int z t) e2⟩
 induction op using Operator.casesOn <;> try exact y.elim
 ·rcases cG y with ⟨p,e,y⟩ | ⟨-,y⟩
  ·obtain ⟨t,u,rfl,rfl⟩:=bF e d d'
   exact CU fun t n'=>q' y lg.symm
  ·obtain ⟨p,e,y⟩:=af y
   obtain ⟨x,z,e1,e2,rfl,rfl⟩:=o6 e d d'
   exact xG y S e1 e2 q
 ·obtain ⟨p,e,y⟩:=af y
  obtain ⟨t,u,rfl,rfl⟩:=bF e d d'
  exact CX fun t n'=>q' y tx.symm
 ·obtain ⟨p,e,y⟩:=af y
  obtain ⟨t,u,rfl,rfl⟩:=bF e d d'
  obtain ⟨y1,y⟩:=uI y
  exact Ea y1 fun t n'=>q' y sK.symm
 ·obtain ⟨p,e,y⟩:=af y
  obtain ⟨t,u,rfl,rfl⟩:=bF e d d'
  obtain ⟨y1,y⟩:=iq y
  exact zk y1 fun t n'=>q' y rfl
 ·obtain ⟨p,e,y⟩:=af y
  obtain ⟨t,u,rfl,rfl⟩:=bF e d d'
  obtain ⟨y1,y⟩:=iq y
  obtain ⟨y2,y⟩:=iq y
  exact Gb y1 y2 fun t n'=>q' y rfl
end
end
section
open PySem PySem.W PyProof.Rows PySem.Calls Builtin Builtin.ObjectAttr
def lW (ρ:Rho) (as:List Addr):Fl->Flow->Prop
 | .nx,f=>f = .next
 | .rt v,f=>∃V,f = .ret V/\Dn ρ as v V
 | .bk,f=>f = .brk
 | .ct,f=>f = .cont
structure Snd (w:World) (ρ:Rho) (O:Opq) (d:Nat) (r:Rc):Prop where
 E:∀{post:Fl->St->Prop} {e s k} {A:Around} {env:Env} {gs dr os} {G:Gr} {h:Heap} {n:Nat} {as:List Addr} {Q:Value->Shared->Prop} {Er:Value->Shared->Prop},
  Room A d->(r.E env.scope e s k).ok ρ post->SR w ρ O G env h s as->
  (∀v V s' h' as' n',(k v s').ok ρ post->SR w ρ O G env h' s' as'->Pre as as'->Dn ρ as' v V->Q V ⟨h',gs,dr,n',os⟩)->wpAny (model pr w) A (eval e env) Q Er ⟨h,gs,dr,n,os⟩
 T:∀{post:Fl->St->Prop} {e s k} {A:Around} {env:Env} {gs dr os} {G:Gr} {h:Heap} {n:Nat} {as:List Addr} {Q:Bool->Shared->Prop} {Er:Value->Shared->Prop} {whole:Sem Value},
  Room A d->(r.T env.scope e s k).ok ρ post->SR w ρ O G env h s as->(eH e=true->whole=eval e env)->
  (∀c s' h' as' n',(k c s').ok ρ post->SR w ρ O G env h' s' as'->Pre as as'->Q c ⟨h',gs,dr,n',os⟩)->wpAny (model pr w) A (isTrue e env whole) Q Er ⟨h,gs,dr,n,os⟩
 S:∀{post:Fl->St->Prop} {b s k} {A:Around} {env:Env} {gs dr os} {G:Gr} {h:Heap} {n:Nat} {as:List Addr} {Q:Flow->Shared->Prop} {Er:Value->Shared->Prop},
  Room A d->(r.S env.scope b s k).ok ρ post->SR w ρ O G env h s as->
  (∀fl F s' h' as' n',(k fl s').ok ρ post->SR w ρ O G env h' s' as'->Pre as as'->lW ρ as' fl F->Q F ⟨h',gs,dr,n',os⟩)->wpAny (model pr w) A (exec b env) Q Er ⟨h,gs,dr,n,os⟩
 C:∀{post:Fl->St->Prop} {fv args s k} {A:Around} {gs dr os} {G:Gr} {h:Heap} {n:Nat} {as:List Addr} {V:Value} {Us:List Value} {Q:Value->Shared->Prop} {Er:Value->Shared->Prop},
  Room A d->(r.C fv args s k).ok ρ post->Co w ρ O G h s.ob s.pc as->Dn ρ as fv V->All2 (Dn ρ as) args Us->
  (∀v V s' h' as' n',s'.ls=s.ls->s'.cl=s.cl->(k v s').ok ρ post->Co w ρ O G h' s'.ob s'.pc as'->Pre as as'->Dn ρ as' v V->Q V ⟨h',gs,dr,n',os⟩)->wpAny (model pr w) A (call V Us) Q Er ⟨h,gs,dr,n,os⟩
theorem rW {w:World} {ρ:Rho} {O:Opq} {d:Nat}:Snd w ρ O d nil:=⟨fun zw y=>y.elim,fun zw y=>y.elim,fun zw y=>y.elim,fun zw y=>y.elim⟩
section
variable {w:World} {ρ:Rho} {O:Opq} {d:Nat} {r:Rc} {post:Fl->St->Prop} {env:Env} {A:Around} {gs:Array GenState} {dr:Drawn} {os:OsState} {G:Gr} {Er:Value->Shared->Prop}
theorem All2.pre {as as':List Addr} (p:Pre as as') {vs:List AV} {Vs:List Value} (x:All2 (Dn ρ as) vs Vs):All2 (Dn ρ as') vs Vs:=x.mono fun zw zw z=>z.pre p
theorem aV {e:Expr} {rest:List Expr} {env:Env} (he:aK e=false):starEach (e::rest) env=(false,eval e env)::starEach rest env:=by
 cases e <;> first | rfl | cases he
theorem cR (R:Snd w ρ O d r) (hR:Room A d) {pos:Pos}:∀{es:List Expr} {s:St} {k:List AV->St->Tr} {h:Heap} {n:Nat} {as:List Addr} {Q:List Value->Shared->Prop},(mP r env.scope es s k).ok ρ post->SR w ρ O G env h s as->
  (∀vs Vs s' h' as' n',(k vs s').ok ρ post->SR w ρ O G env h' s' as'->Pre as as'->All2 (Dn ρ as') vs Vs->Vs.length=es.length->Q Vs ⟨h',gs,dr,n',os⟩)->
  wpAny (model pr w) A (spliced (backTo pos (starEach es env))) Q Er ⟨h,gs,dr,n,os⟩
 | [],s,k,h,n,as,Q,y,S,q=>PyProof.Rows.spliced_none (q _ _ _ _ _ _ y S .refl .nil rfl)
 | e::es,s,k,h,n,as,Q,y,S,q=>by
  simp only [mP] at y
  split at y
  ·exact y.elim
  ·rename_i hs
   rw [Bool.not_eq_true] at hs
   refine PyProof.Rows.spliced_more ?_ (aV hs)
   refine R.E hR y S fun v V s' h' as' n' y S' p dv=>?_
   refine cR R hR y S' fun vs Vs s'' h'' as'' n'' y S'' p' dvs hl=>?_
   exact q _ _ _ _ _ _ y S'' (p.trans p') (.cons (dv.pre p') dvs) (by simp [hl])
theorem zE (v:AV) (k:AV->Tr):fV v k=k v:=by induction v using AV.casesOn <;> rfl
theorem kn:∀(l:List AV) (k:List AV->Tr),DC l k=k l
 | [],k=>rfl
 | v::r,k=>by exact (zE v _).trans (kn r _)
theorem nq:∀(l:List (Str×AV)) (k:List (Str×AV)->Tr),GD l k=k l
 | [],k=>rfl
 | (x,v)::r,k=>by exact (zE v _).trans (nq r _)
theorem F6 (v:AO) (k:AO->Tr):fO v k=k v:=by
 induction v using AO.casesOn with
 | lst vs=>exact kn vs _
 | pl vs=>exact kn vs _
 | tup vs=>exact kn vs _
 | ns fs=>exact nq fs _
 | _=>rfl
theorem so:∀(l:List AO) (k:List AO->Tr),GZ l k=k l
 | [],k=>rfl
 | v::r,k=>by exact (F6 v _).trans (so r _)
theorem B5 (s:St) (k:St->Tr):MD s k=k s:=by induction s using St.casesOn; exact (nq _ _).trans (so _ _)
theorem cq (R:Snd w ρ O d r) (hR:Room A d):∀{bs:List Stmt} {s:St} {k:Fl->St->Tr} {h:Heap} {n:Nat} {as:List Addr} {Q:Flow->Shared->Prop},(qm r env.scope bs s k).ok ρ post->SR w ρ O G env h s as->
  (∀fl F s' h' as' n',(k fl s').ok ρ post->SR w ρ O G env h' s' as'->Pre as as'->lW ρ as' fl F->Q F ⟨h',gs,dr,n',os⟩)->wpAny (model pr w) A (execs bs env) Q Er ⟨h,gs,dr,n,os⟩
 | [],s,k,h,n,as,Q,y,S,q=>wpAny_execs_nil (q _ _ _ _ _ _ y S .refl rfl)
 | b::bs,s,k,h,n,as,Q,y,S,q=>by
  simp only [qm] at y
  refine wpAny_execs_cons (R.S hR y S fun fl F s' h' as' n' y S' p df=>?_)
  rw [B5] at y
  induction fl with
  | nx =>
   have df:F = .next:=df
   subst df
   exact cq R hR y S' fun fl F s'' h'' as'' n'' y S'' p' df=>q _ _ _ _ _ _ y S'' (p.trans p') df
  | rt v =>
   obtain ⟨V,rfl,dv⟩:=df
   exact q _ _ _ _ _ _ y S' p ⟨V,rfl,dv⟩
  | bk =>
   have df:F = .brk:=df
   subst df
   exact q .bk _ _ _ _ _ y S' p rfl
  | ct =>
   have df:F = .cont:=df
   subst df
   exact q .ct _ _ _ _ _ y S' p rfl
theorem nK {e:Expr} (hp:eH e=true) (env:Env) (whole:Sem Value):isTrue e env whole=(do let v <- whole; standAt e.pos; holding [v] (truthy v)):=by
 induction e using Expr.casesOn <;> first | rfl | exact bG hp
theorem gx {op:CmpOp} {a b:AV} {k:Bool->St->Tr} {V U:Value} {s:St} {h:Heap} {n:Nat} {as:List Addr} {Q:Bool->Shared->Prop} (hu:A.units < cLine) (y:(gN op a b s k).ok ρ post) (S:SR w ρ O G env h s as) (d:Dn ρ as a V) (d':Dn ρ as b U)
  (q:∀c s' n',(k c s').ok ρ post->SR w ρ O G env h s' as->Q c ⟨h,gs,dr,n',os⟩):wpAny (model pr w) A (compareOp op V U) (fun c s₃=>wpAny (model pr w) A (truthy c) Q Er s₃) Er ⟨h,gs,dr,n,os⟩ :=
 dL hu y S d d' fun c s' n' y S=>wpAny_truthy_bool (q c s' n' y S)
set_option tactic.hygienic true
theorem iD (R:Snd w ρ O d r) {e:Expr} {s:St} {k:Bool->St->Tr} {h:Heap} {n:Nat} {as:List Addr} {Q:Bool->Shared->Prop} {whole:Sem Value} (hR:Room A d) (y:(stepT r env.scope e s k).ok ρ post) (S:SR w ρ O G env h s as)
  (hw:eH e=true->whole=eval e env) (q:∀c s' h' as' n',(k c s').ok ρ post->SR w ρ O G env h' s' as'->Pre as as'->Q c ⟨h',gs,dr,n',os⟩):wpAny (model pr w) A (isTrue e env whole) Q Er ⟨h,gs,dr,n,os⟩:=by
 have dft:(bN (eH e) (r.E env.scope e s fun v s=>pL v s k)).ok ρ post->wpAny (model pr w) A (isTrue e env whole) Q Er ⟨h,gs,dr,n,os⟩:=fun y=>by
  obtain ⟨hp,y⟩:=aj y
  refine aa (hw hp) ?_
  refine PyProof.Rows.isTrue_plain (R.E hR y S fun v V s' h' as' n' y S' p dv=>?_) (nK hp _ _)
  exact ip y S' dv fun c s3 n3 y S3=>q _ _ _ _ _ y S3 p
 induction e using Expr.casesOn <;> try exact dft y
 ·rename_i op vs p
  cases op with
  | And =>
   induction vs using List.casesOn with
   | nil=>exact PyProof.Rows.isTrue_and_nil (q _ _ _ _ _ y S .refl)
   | cons a rest =>
    refine PyProof.Rows.isTrue_and (R.T hR y S (fun zw=>rfl) fun c s' h' as' n' y S' p=>?_)
    induction c with
    | true=>exact R.T hR y S' (fun e=>bG e) fun c s'' h'' as'' n'' y S'' p'=>q _ _ _ _ _ y S'' (p.trans p')
    | false=>exact q _ _ _ _ _ y S' p
  | Or =>
   induction vs using List.casesOn with
   | nil=>exact PyProof.Rows.isTrue_or_nil (q _ _ _ _ _ y S .refl)
   | cons a rest =>
    refine PyProof.Rows.isTrue_or (R.T hR y S (fun zw=>rfl) fun c s' h' as' n' y S' p=>?_)
    induction c with
    | false=>exact R.T hR y S' (fun e=>bG e) fun c s'' h'' as'' n'' y S'' p'=>q _ _ _ _ _ y S'' (p.trans p')
    | true=>exact q _ _ _ _ _ y S' p
 ·rename_i op a pos
  cases op <;> try exact y.elim
  exact PyProof.Rows.isTrue_not (R.T hR y S (fun zw=>rfl) fun c s' h' as' n' y S' p=>q _ _ _ _ _ y S' p)
 ·have hu:A.units < cLine:=by have:=hR.un; (first | lia | omega)
  rcases cG y with ⟨z,e,y⟩ | ⟨-,y⟩
  ·obtain ⟨e1,e2⟩:=ah e
   refine aa (ba e1) (aa (ba e2) ?_)
   rcases cF y with ⟨-,y⟩ | ⟨hm,y⟩
   ·exact y.elim
   refine wpAny_isTrue_Compare1 (R.E hR y S fun v V s' h' as' n' y S' p dv=>?_) hm
   refine R.E hR y S' fun u U s'' h'' as'' n'' y S'' p' du=>?_
   exact gx hu y S'' (dv.pre p') du fun c s3 n3 y S3=>q _ _ _ _ _ y S3 (p.trans p')
  ·obtain ⟨z,e,y⟩:=af y
   obtain ⟨e1,e2⟩:=ah e
   refine aa (ch e1) (aa (ch e2) ?_)
   rcases cF y with ⟨-,y⟩ | ⟨hm,y⟩
   ·exact y.elim
   refine PyProof.Rows.isTrue_chain (R.E hR y S fun v V s' h' as' n' y S' p dv=>?_) hm
   refine PyProof.Rows.test_link (R.E hR y S' fun u U s'' h'' as'' n'' y S'' p' du=>?_)
   refine gx hu y S'' (dv.pre p') du fun c s3 n3 y S3=>?_
   induction c with
   | true =>
    refine PyProof.Rows.test_last (R.E hR y S3 fun z Z s4 h4 as4 n4 y S4 p4 dz=>?_)
    exact gx hu y S4 (du.pre p4) dz fun c s3 n3 y S3=>q _ _ _ _ _ y S3 ((p.trans p').trans p4)
   | false=>exact q _ _ _ _ _ y S3 (p.trans p')
theorem eR {o:Expr} {name:Str} {env:Env} {whole:Sem Value} (hc:cr o=false):attributeBase o name env whole=whole:=by
 induction o using Expr.casesOn <;> try rfl
 rename_i f args kw p
 cases f <;> try rfl
 cases args with
 | cons _ _=>rfl
 | nil =>
  induction kw using List.casesOn with
  | cons _ _=>rfl
  | nil=>exact bG hc.symm
set_option tactic.hygienic false
theorem dO {it:Expr} {env:Env} (e:cp it=false) (x:Value):foldedSetIterable it env x=pure x:=by
 cases it <;> first | rfl | cases e
theorem zO {o:AO} {p:Bool×Nat×Nat} (h:o.it? = some p):o=Aj p.1 p.2.1 p.2.2:=by induction o using AO.casesOn <;> first | exact congrArg (fun p:Bool×Nat×Nat=>Aj p.1 p.2.1 p.2.2) (aG h) | exact ap h
theorem oF {s:St} {h:Heap} {n:Nat} {as:List Addr} {m:Nat} {it:Addr} {p:Option AV×AO} {Q:Option Value->Shared->Prop} (hd:A.handled=none) (S:SR w ρ O G env h s as) (hm:as[m]? = some it) (e:mS s m=some p)
  (q1:∀v V h',p.1=some v->Dn ρ as v V->SR w ρ O G env h' { s with ob:=s.ob.set m p.2 } as->Q (some V) ⟨h',gs,dr,n,os⟩)
  (q2:∀h',p.1=none->SR w ρ O G env h' { s with ob:=s.ob.set m .dead } as->Q none ⟨h',gs,dr,n,os⟩):wpAny (model pr w) A (pyNext (.ref it)) Q Er ⟨h,gs,dr,n,os⟩:=by
 apply bc;intro ng
 obtain ⟨⟨b,j,i⟩,e1,e⟩:=az e
 obtain ⟨vs,e2,e⟩:=gR e
 subst e
 obtain ⟨o,e1,e3⟩:=az e1
 rw [zO e3] at e1
 have ow:(Aj b j i).own=true:=by cases b <;> rfl
 obtain ⟨it',a1,a2,-⟩:=S.get e1
 apply ng;clear ng
 rw [hm] at a1
 rw [<- aG a1] at a2
 induction b with
 | true =>
  apply bc;intro ng
  obtain ⟨l,a2,a3⟩:=a2
  obtain ⟨Vs,b2,b3⟩:=S.vw (c:=.lst) cy e2 a2
  apply ng;clear ng
  have hl:h.IsList l Vs.toArray:=b3
  induction ev:vs[i]? with
  | some v =>
   apply bc;intro ng
   obtain ⟨V,v1,v2⟩:=b2.get ev
   apply ng;clear ng
   exact wpAny_pyNext_list_item (s:=⟨h,gs,dr,n,os⟩) a3 hl (x:=V) (by simpa using v1) fun h' hit hs=>q1 v V h' ev v2 (S.obj e1 ow hm hs ⟨l,a2,hit⟩)
  | none=>exact wpAny_pyNext_list_end (s:=⟨h,gs,dr,n,os⟩) hd a3 hl (by have:=b2.len; simp at ev ⊢; (first | lia | omega)) fun h' hs=>q2 h' ev (S.obj' (o':=.dead) e1 ow hm hs trivial)
 | false =>
  apply bc;intro ng
  obtain ⟨l,a2,a3⟩:=a2
  obtain ⟨Vs,b2,b3⟩:=S.vw (c:=.tup) cX e2 a2
  apply ng;clear ng
  have hl:IsTup h l Vs.toArray:=b3
  induction ev:vs[i]? with
  | some v =>
   apply bc;intro ng
   obtain ⟨V,v1,v2⟩:=b2.get ev
   apply ng;clear ng
   exact next_tuple_item (s:=⟨h,gs,dr,n,os⟩) a3 hl (x:=V) (by simpa using v1) fun h' hit hs=>q1 v V h' ev v2 (S.obj e1 ow hm hs ⟨l,a2,hit⟩)
  | none=>exact next_tuple_end (s:=⟨h,gs,dr,n,os⟩) hd a3 hl (by have:=b2.len; simp at ev ⊢; (first | lia | omega)) fun h' hs=>q2 h' ev (S.obj' (o':=.dead) e1 ow hm hs trivial)
theorem ku (R:Snd w ρ O d r) {x:Str} {px:Pos} {body:List Stmt} {m:Nat} {it:Addr} {k:Fl->St->Tr} {Q:Flow->Shared->Prop} (hR:Room A d) {as₀:List Addr}
  (q:∀fl F s' h' as' n',(k fl s').ok ρ post->SR w ρ O G env h' s' as'->Pre as₀ as'->lW ρ as' fl F->Q F ⟨h',gs,dr,n',os⟩) {nn:Nat} {s:St} {h:Heap} {n:Nat} {as:List Addr} (y:(lZ r env.scope x body m k nn s).ok ρ post) (S:SR w ρ O G env h s as) (p₀:Pre as₀ as)
  (hm:as[m]? = some it) :
  codeAny (model pr w) A (.forLoop (.Name x px) (.ref it) body [] env) (fun r s'=>match r with | .ok f=>Q f s' | .error e=>cameBackBy (model pr w) A env Er e s') ⟨h,gs,dr,n,os⟩:=by
 refine codeAny_forLoop (fun nn st=>∃s h n as,st=⟨h,gs,dr,n,os⟩/\(lZ r env.scope x body m k nn s).ok ρ post/\SR w ρ O G env h s as/\Pre as₀ as/\as[m]? = some it) (fun nn st I=>?_) nn ⟨s,h,n,as,rfl,y,S,p₀,hm⟩
 apply bc;intro ng
 obtain ⟨s,h,n,as,rfl,y,S,p₀,hm⟩:=I
 apply ng;clear ng
 induction nn using Nat.casesOn with
 | zero=>exact y.elim
 | succ nn =>
  apply bc;intro ng
  obtain ⟨p,ep,y⟩:=af y
  apply ng;clear ng
  refine oF hR.hd S hm ep (fun v V h' ev dv S=>?_) fun h' ev S=>?_
  ·rw [ev] at y
   refine wpAny_assign_Name (aW y S dv fun s'' h'' n'' y S''=>?_)
   refine cq R hR y S'' fun fl F s3 h3 as3 n3 y S3 p3 df=>?_
   induction fl with
   | nx=>have df:F = .next:=df; subst df; exact ⟨nn,Nat.lt_succ_self _,_,_,_,_,rfl,y,S3,p₀.trans p3,p3.get hm⟩
   | ct=>have df:F = .cont:=df; subst df; exact ⟨nn,Nat.lt_succ_self _,_,_,_,_,rfl,y,S3,p₀.trans p3,p3.get hm⟩
   | bk=>have df:F = .brk:=df; subst df; exact q _ _ _ _ _ _ y S3 (p₀.trans p3) rfl
   | rt v=>obtain ⟨V,rfl,dv⟩:=df; exact q _ _ _ _ _ _ y S3 (p₀.trans p3) ⟨V,rfl,dv⟩
  ·rw [ev] at y
   exact wpAny_execs_nil (q _ _ _ _ _ _ y S p₀ rfl)
theorem pD {s:St} {h:Heap} {n:Nat} {as:List Addr} {v:AV} {V:Value} {io:AO} {Q:Value->Shared->Prop} (S:SR w ρ O G env h s as) (d:Dn ρ as v V) (e:BR v s=some io)
  (q:∀o,(∀{E:Value->Shared->Prop} {Q:Value->Shared->Prop} {h2:Heap},(h.push o).StaysIn h2->Q (.ref h.objs.size) ⟨h2,gs,dr,n,os⟩->wpAny (model pr w) A (pyIter (.ref h.objs.size)) Q E ⟨h2,gs,dr,n,os⟩)->
   SR w ρ O G env (h.push o) { s with ob:=s.ob++[io] } (as++[h.objs.size])->Q (.ref h.objs.size) ⟨h.push o,gs,dr,n,os⟩):wpAny (model pr w) A (pyIter V) Q Er ⟨h,gs,dr,n,os⟩:=by
 apply bc;intro ng
 obtain ⟨j,ej,e⟩:=az e
 rw [bM ej] at d
 obtain ⟨a,ea,rfl⟩:=d
 apply ng;clear ng
 have ea':(as++[h.objs.size])[j]? = some a:=Pre.get ⟨_,rfl⟩ ea
 have st:∀{f:AO->Option (List AV)},(v.l?.bind s.at).bind f=(s.at j).bind f:=fun {f}=>by refine aa ej ?_; rfl
 induction el:lstAt s v with
 | some vs =>
  rw [el] at e
  have e:=aG e
  apply bc;intro ng
  subst e
  obtain ⟨Vs,b2,b3⟩:=S.vw (c:=.lst) cy (st.symm.trans el) ea
  apply ng;clear ng
  have hl:h.IsList a Vs.toArray:=b3
  exact wpAny_pyIter_list (s:=⟨h,gs,dr,n,os⟩) hl (q _ (fun kk z=>wpAny_pyIter_listiter (l:=a) (i:=0) ⟨_,kk _ _ (Heap.get?_push_size _ rfl),rfl,rfl⟩ z) (S.push _ (ao:=.lit j 0) ⟨a,ea',_,Heap.get?_push_size _ rfl,rfl,rfl⟩))
 | none =>
  rw [el] at e
  apply bc;intro ng
  obtain ⟨vs,et,e⟩:=gR e
  subst e
  obtain ⟨Vs,b2,b3⟩:=S.vw (c:=.tup) cX (st.symm.trans et) ea
  apply ng;clear ng
  have hl:IsTup h a Vs.toArray:=b3
  exact iter_tuple (s:=⟨h,gs,dr,n,os⟩) hl (q _ (fun kk z=>wpAny_pyIter_tupleiter (t:=a) (i:=0) ⟨_,kk _ _ (Heap.get?_push_size _ rfl),rfl,rfl⟩ z) (S.push _ (ao:=.tit j 0) ⟨a,ea',_,Heap.get?_push_size _ rfl,rfl,rfl⟩))
theorem lD {vs:List Expr} (h:vs.all hP=true):vs.all (foldedForSure 8)=true:=by
 rw [List.all_eq_true] at h ⊢
 intro e m
 have:=h e m
 cases e <;> first | rfl | exact bG this
theorem nB {elts:List Expr} {k0:Nat} {tpos:Pos} {e:Expr} {l:Nat} (hc:dH e=false):swapsWithSole [.Tuple elts k0 tpos] e l env=pure false:=by
 induction e using Expr.casesOn <;> first | rfl | exact bG hc.symm
noncomputable def NO (b1 b2 b3 b4 b5:Bool) (ns:List Str):Sem (Option (List Str)):=do
 if b1=true then return none
 if b2=true then return none
 if b3=true then return none
 if b4=true then return none
 if b5=true then unsupported "assign.tuple-of-constant-expressions:order-of-the-stores"
 return some ns
theorem sC {b1 b2 b3 b4 b5:Bool} {ns:List Str} (h:b3=true\/b4=true):NO b1 b2 b3 b4 b5 ns=pure none:=by
 induction b1 with
 | true=>rfl
 | false =>
  induction b2 with
  | true=>rfl
  | false =>
   induction b3 with
   | true=>rfl
   | false=>induction h with | inl h=>exact bG h | inr h=>refine aa h ?_; rfl
set_option tactic.hygienic true
theorem BO {elts:List Expr} {k0:Nat} {tpos:Pos} {e:Expr} (hc:iA e=false):swappedStores [.Tuple elts k0 tpos] e env=pure none:=by
 induction e using Expr.casesOn <;> try rfl
 rename_i vs k1 p1
 have hc:(!(vs.all hP))=false:=hc
 exact sC (b1:=_) (b2:=_) (b3:=_) (b5:=_) (ns:=_) (.inr (lD (by induction q:vs.all hP with | true=>rfl | false=>rw [q] at hc; exact bG hc.symm)))
set_option tactic.hygienic false
theorem i4 {t:Option Expr} {e:Expr} {l:Nat} (hc:dH e=false):swapsWith e t l env=pure false:=by
 induction e using Expr.casesOn <;> first | rfl | exact bG hc.symm
theorem vU {i:Expr} (hs:cu i=false) (ov iv new:Value):augStore i ov iv new=(do holding [new,ov,iv] (setItem ov iv new); release [new,ov,iv] []; pure .next):=by
 cases i <;> first | rfl | cases hs
theorem uK {e:Expr} (h:cM e=true):(∃x p,e = .Name x p)\/∃o n p,e = .Attribute o n p:=by
 induction e using Expr.casesOn <;> first | exact bG h | exact .inl ⟨_,_,rfl⟩ | exact .inr ⟨_,_,_,rfl⟩
theorem gv {elts:List Expr} (h:elts.all cM=true):(assignEach elts env).length=elts.length/\∀x∈assignEach elts env,x.1=false:=by
 induction elts with
 | nil=>exact ⟨rfl,fun zw m=>nomatch m⟩
 | cons e r ih =>
  obtain ⟨i1,i2⟩:=ih (au h)
  rcases uK (ag h) with ⟨x,p,rfl⟩ | ⟨o,n,p,rfl⟩
  ·exact ⟨congrArg (· + 1) i1,List.forall_mem_cons.mpr ⟨rfl,i2⟩⟩
  ·exact ⟨congrArg (· + 1) i1,List.forall_mem_cons.mpr ⟨rfl,i2⟩⟩
theorem gH {elts:List Expr} (h:elts.all cM=true):(assignEach elts env).findIdx? (·.1)=none:=List.findIdx?_eq_none_iff.mpr (gv h).2
set_option tactic.hygienic true
theorem dZ (R:Snd w ρ O d r) (hR:Room A d) {elts:List Expr} {vs:List AV} {Vs:List Value} {s:St} {k:St->Tr} {h:Heap} {n:Nat} {as:List Addr} {Q:Unit->Shared->Prop} (hp:elts.all cM=true) (y:(dD w.params r env.scope elts vs s k).ok ρ post)
  (S:SR w ρ O G env h s as) (dv:All2 (Dn ρ as) vs Vs) (q:∀s' h' as' n',(k s').ok ρ post->SR w ρ O G env h' s' as'->Pre as as'->Q () ⟨h',gs,dr,n',os⟩) :
  wpAny (model pr w) A (assignInOrder ((assignEach elts env).map (·.2)) Vs) Q Er ⟨h,gs,dr,n,os⟩:=by
 induction elts generalizing vs Vs s h n as with
 | nil =>
  cases dv with
  | nil=>exact assignInOrder_nil (q _ _ _ _ y S .refl)
  | cons _ _=>exact y.elim
 | cons e es ih =>
  cases dv with
  | nil=>exact y.elim
  | cons dv dvs =>
   rcases uK (ag hp) with ⟨x,p,rfl⟩ | ⟨o,name,p,rfl⟩
   ·rename_i vs _
    refine assignInOrder_cons (wpAny_assign_Name (aW (k:=fun s=>dD w.params r env.scope es vs s k) y S dv fun s' h' n' y S'=>?_))
    exact ih (au hp) y S' dvs q
   ·refine assignInOrder_cons ?_
    show wpAny _ _ (assign (.Attribute o name p) env _) _ _ _
    rw [assign_Attribute]
    refine wpAny_bind (wpAny_holding (R.E hR y S fun ov OV s' h' as' n' y S' p dv'=>?_))
    refine wpAny_bind (wpAny_standAt (wpAny_bind (wpAny_holding (ew y S' dv' (dv.pre p) fun s3 h3 n3 y S3=>?_))))
    refine wpAny_release ?_
    exact ih (au hp) y S3 (dvs.pre p) fun s4 h4 as4 n4 y S4 p4=>q _ _ _ _ y S4 (p.trans p4)
set_option tactic.hygienic false
theorem iQ {e:Expr} {x:Str} (h:iL e=some x):∃p,e = .Name x p:=by induction e using Expr.casesOn <;> first | exact ⟨_,congrArg (fun x=>Expr.Name x _) (aG h)⟩ | exact ap h
theorem q6 {e:Expr} (h:pC e=true):dH e=false:=by
 unfold dH; refine aa (Nat.eq_of_beq_eq_true h) ?_; rfl
theorem vz (R:Snd w ρ O d r) {t e:Expr} {pos:Pos} {s:St} {k:St->Tr} {h:Heap} {n:Nat} {as:List Addr} {Q:Flow->Shared->Prop} (hR:Room A d) (hc:dH e=false) (y:(DU w.params r env.scope t e s k).ok ρ post) (S:SR w ρ O G env h s as)
  (q:∀s' h' as' n',(k s').ok ρ post->SR w ρ O G env h' s' as'->Pre as as'->Q .next ⟨h',gs,dr,n',os⟩):wpAny (model pr w) A (exec (.Assign [t] e pos) env) Q Er ⟨h,gs,dr,n,os⟩:=by
 induction t using Expr.casesOn <;> try exact y.elim
 ·refine plainObj_wpAny_Assign_Attribute (R.E hR y S fun v V s' h' as' n' y S' p dv=>?_) (i4 hc)
  refine R.E hR y S' fun ov OV s'' h'' as'' n'' y S'' p' do'=>?_
  exact ew y S'' do' (dv.pre p') fun s3 h3 n3 y S3=>q _ _ _ _ y S3 (p.trans p')
 ·refine wpAny_Assign_Subscript (R.E hR y S fun v V s' h' as' n' y S' p dv=>?_) (i4 hc)
  refine R.E hR y S' fun ov OV s2 h2 as2 n2 y S2 p2 d2=>?_
  refine R.E hR y S2 fun iv IV s3 h3 as3 n3 y S3 p3 d3=>?_
  exact dW y S3 (d2.pre p3) d3 ((dv.pre p2).pre p3) fun s4 h4 n4 y S4=>q _ _ _ _ y S4 ((p.trans p2).trans p3)
 ·refine wpAny_Assign_Name (R.E hR y S fun v V s' h' as' n' y S' p dv=>?_) (i4 hc)
  exact aW y S' dv fun s2 h'' n'' y S''=>q _ _ _ _ y S'' p
 ·obtain ⟨ht,y⟩:=aj y
  refine Assign_Tuple (R.E hR y S fun v V s' h' as' n' y S' p dv=>?_) (nB hc) (BO (iw ht))
  apply bc;intro ng
  obtain ⟨vs,ev,y⟩:=af y
  obtain ⟨a,Vs,rfl,b2,b3⟩:=bB S'.hat ev dv
  obtain ⟨hlen,y⟩:=aj y
  apply ng;clear ng
  have hl:IsTup h' a Vs.toArray:=b3
  have h1:=of_decide_eq_true (ag hlen)
  refine assign_Tuple_tuple (s:=⟨h',gs,dr,n',os⟩) hR.hd hl (by refine aa ((gv (au hlen)).1) ?_; have:=b2.len; simp; (first | lia | omega)) (gH (au hlen)) fun h2 hx=>?_
  exact dZ R hR (au hlen) y (S'.stayX hx) b2 fun s3 h3 as3 n3 y S3 p3=>q _ _ _ _ y S3 (p.trans p3)
theorem xy (R:Snd w ρ O d r) {t e:Expr} {op:Operator} {pos:Pos} {s:St} {k:St->Tr} {h:Heap} {n:Nat} {as:List Addr} {Q:Flow->Shared->Prop} (hR:Room A d) (y:(Ed w.params r env.scope t op e s k).ok ρ post) (S:SR w ρ O G env h s as)
  (q:∀s' h' as' n',(k s').ok ρ post->SR w ρ O G env h' s' as'->Pre as as'->Q .next ⟨h',gs,dr,n',os⟩):wpAny (model pr w) A (exec (.AugAssign t op e pos) env) Q Er ⟨h,gs,dr,n,os⟩:=by
 induction t using Expr.casesOn <;> try exact y.elim
 ·refine wpAny_AugAssign_AttributeAny (R.E hR y S fun ov OV s' h' as' n' y S' p d1=>?_)
  refine iN y S' d1 fun old OLD n2 y d2=>?_
  refine R.E hR y S' fun v V s3 h3 as3 n3 y S3 p3 d3=>?_
  refine lM y (d2.pre p3) d3 fun nw NW n4 y d4=>?_
  exact ew y S3 (d1.pre p3) d4 fun s5 h5 n5 y S5=>q _ _ _ _ y S5 (p.trans p3)
 ·obtain ⟨hs,y⟩:=aj y
  refine wpAny_AugAssign_SubscriptAny (R.E hR y S fun ov OV s1 h1 as1 n1 y S1 p1 d1=>?_) (vU (iw hs))
  refine R.E hR y S1 fun iv IV s2 h2 as2 n2 y S2 p2 d2=>?_
  refine (o7 y S2 (d1.pre p2) d2 fun old OLD s3 n3 y S3 d3=>?_).1
  refine R.E hR y S3 fun v V s4 h4 as4 n4 y S4 p4 d4=>?_
  refine lM y (d3.pre p4) d4 fun nw NW n5 y d5=>?_
  exact dW y S4 ((d1.pre p2).pre p4) (d2.pre p4) d5 fun s6 h6 n6 y S6=>q _ _ _ _ y S6 ((p1.trans p2).trans p4)
set_option tactic.hygienic true
theorem dq (R:Snd w ρ O d r) {b:Stmt} {s:St} {k:Fl->St->Tr} {h:Heap} {n:Nat} {as:List Addr} {Q:Flow->Shared->Prop} (hR:Room A d) (y:(iH w.params r env.scope b s k).ok ρ post) (S:SR w ρ O G env h s as)
  (q:∀fl F s' h' as' n',(k fl s').ok ρ post->SR w ρ O G env h' s' as'->Pre as as'->lW ρ as' fl F->Q F ⟨h',gs,dr,n',os⟩):wpAny (model pr w) A (exec b env) Q Er ⟨h,gs,dr,n,os⟩:=by
 induction b using Stmt.casesOn <;> try exact y.elim
 ·rename_i e pos
  induction e with
  | some e=>exact wpAny_Return_some (R.E hR y S fun v V s' h' as' n' y S' p dv=>q _ _ _ _ _ _ y S' p ⟨V,rfl,dv⟩)
  | none=>exact wpAny_Return_none (q _ _ _ _ _ _ y S .refl ⟨_,rfl,rfl⟩)
 ·obtain ⟨hc,y⟩:=aj y
  apply bc;intro ng
  obtain ⟨t,et,y⟩:=af y
  apply ng;clear ng
  refine aa (ba et) ?_
  exact vz R hR (iw hc) y S fun s' h' as' n' y S' p=>q _ _ _ _ _ _ y S' p rfl
 ·exact xy R hR y S fun s' h' as' n' y S' p=>q _ _ _ _ _ _ y S' p rfl
 ·obtain ⟨he,y⟩:=aj y
  apply bc;intro ng
  obtain ⟨x,ex,y⟩:=af y
  obtain ⟨px,rfl⟩:=iQ ex
  apply ng;clear ng
  refine aa (List.isEmpty_iff.mp he) ?_
  apply bc;intro ng
  obtain ⟨hs,y⟩:=aj y
  apply ng;clear ng
  refine wpAny_For (R.E hR y S fun v V s' h' as' n' y S' p dv=>?_) (dO (iw hs))
  apply bc;intro ng
  obtain ⟨io,ei,y⟩:=af y
  apply ng;clear ng
  refine pD S' dv ei fun o zw S1=>?_
  refine ku R hR (as₀:=as) q y S1 (p.trans ⟨_,rfl⟩) ?_
  refine aa (Eq.symm S'.sz) ?_; exact aX
 ·refine wpAny_If (R.T hR y S (fun zw=>rfl) fun c s' h' as' n' y S' p=>?_)
  induction c with
  | true=>exact cq R hR y S' fun fl F s'' h'' as'' n'' y S'' p' df=>q _ _ _ _ _ _ y S'' (p.trans p') df
  | false=>exact cq R hR y S' fun fl F s'' h'' as'' n'' y S'' p' df=>q _ _ _ _ _ _ y S'' (p.trans p') df
 ·obtain ⟨hc,y⟩:=aj y
  exact wpAny_Expr_any (R.E hR y S fun v V s' h' as' n' y S' p dv=>q _ _ _ _ _ _ y S' p rfl) (by unfold interactive; refine aa S.ek ?_; rfl) (i4 (q6 hc))
 ·exact wpAny_Pass (q _ _ _ _ _ _ y S .refl rfl)
 ·exact wpAny_Continue (q _ _ _ _ _ _ y S .refl rfl)
set_option tactic.hygienic false
theorem to {fv:Value} {first:List Value} {e:Expr} {rest:List Expr} {env:Env} {pos:Pos} {Q:Value->Shared->Prop} {s:Shared} (hk:keepIn (K w.params) fv=true)
  (he:starEach (e::rest) env=(false,eval e env)::starEach rest env) (hp:(backTo pos (starEach rest env)).any (·.1)=false)
  (q:wpAny (model pr w) A (spliced (backTo pos (starEach (e::rest) env))) (fun vs s₁=>(K w.params).In s₁.heap/\wpAny (model pr w) A (call fv (first++vs)) Q Er s₁) Er s) :
  wpAny (model pr w) A (callWith pos fv first (backTo pos (starEach (e::rest) env)) []) Q Er s:=by
 rw [he] at q ⊢
 exact callWith_of (P:=(K w.params).In) (by show ((false || (backTo pos (starEach rest env)).any (·.1)) || false)=false; refine aa hp ?_; rfl) (keeps_K hk) (evalArgs_plain q)
theorem ci {pos:Pos} {env:Env}:∀{args:List Expr},(args.all fun e=>!aK e)=true->(backTo pos (starEach args env)).any (·.1)=false/\(backTo pos (starEach args env)).length=args.length
 | [],_=>⟨rfl,rfl⟩
 | e::r,h=>by
  rw [List.all_cons,Bool.and_eq_true,Bool.not_eq_true'] at h
  obtain ⟨i1,i2⟩:=ci (pos:=pos) (env:=env) h.2
  refine aa (aV h.1) ?_
  exact ⟨by show (false || (backTo pos (starEach r env)).any (·.1))=false; refine aa i1 ?_; rfl,by show (backTo pos (starEach r env)).length + 1=_; refine aa i2 ?_; rfl⟩
theorem zt (R:Snd w ρ O d r) {fv:AV} {V:Value} {first:List AV} {First:List Value} {pos:Pos} {args:List Expr} {s:St} {k:AV->St->Tr} {h:Heap} {n:Nat} {as:List Addr} {Q:Value->Shared->Prop} (hR:Room A d)
  (hs:(args.all fun e=>!aK e)=true) (hkeep:mH w.params args.length fv=true) (hfirst:(∃a,V = .ref a)\/First = [])
  (y:(mP r env.scope args s fun vs s=>r.C fv (first++vs) s k).ok ρ post) (S:SR w ρ O G env h s as) (dv:Dn ρ as fv V) (df:All2 (Dn ρ as) first First)
  (q:∀v V s' h' as' n',(k v s').ok ρ post->SR w ρ O G env h' s' as'->Pre as as'->Dn ρ as' v V->Q V ⟨h',gs,dr,n',os⟩) :
  wpAny (model pr w) A (callWith pos V First (backTo pos (starEach args env)) []) Q Er ⟨h,gs,dr,n,os⟩:=by
 have hp:=(ci (pos:=pos) (env:=env) hs).1
 have main:wpAny (model pr w) A (spliced (backTo pos (starEach args env))) (fun vs s₁=>(K w.params).In s₁.heap/\wpAny (model pr w) A (call V (First++vs)) Q Er s₁) Er ⟨h,gs,dr,n,os⟩ :=
  cR R hR y S fun vs Vs s' h' as' n' y S' p dvs zw=>⟨S'.k,R.C hR y S'.co (dv.pre p) ((df.pre p).app dvs) fun v U s'' h'' as'' n'' e1 e2 y S'' p' du=>q _ _ _ _ _ _ y (S'.back S'' p' e1 e2) (p.trans p') du⟩
 unfold mH at hkeep
 induction hg:fv.g? with
 | none=>rw [hg] at hkeep; exact bG hkeep
 | some v =>
  rw [hg] at hkeep
  rw [m5 hg] at dv y
  have dv:V=v:=dv
  subst dv
  have nb:(∀a,V≠.ref a)->First = []:=fun z=>hfirst.elim (fun ⟨a,e⟩=>absurd e (z a)) id
  induction V using Value.casesOn <;> try exact bG hkeep
  ·have h0:=nb fun a=>nofun
   subst h0
   induction args using List.casesOn with
   | nil=>exact bG hkeep
   | cons e rest =>
    rw [List.all_cons,Bool.and_eq_true,Bool.not_eq_true'] at hs
    exact PyProof.Rows.callWith_type1 (wpAny_mono main (fun zw zw z=>z.2) fun zw zw z=>z) (aV hs.1) (ci hs.2).1
  ·have h0:=nb fun a=>nofun
   subst h0
   induction args using List.casesOn with
   | nil=>exact bG hkeep
   | cons e rest =>
    rw [List.all_cons,Bool.and_eq_true,Bool.not_eq_true'] at hs
    exact PyProof.Rows.callWith_builtin1 (wpAny_mono main (fun zw zw z=>z.2) fun zw zw z=>z) (aV hs.1) (ci hs.2).1
  ·induction args using List.casesOn with
   | nil =>
    have y:(r.C _ (first++[]) s k).ok ρ post:=y
    exact callWith_K0 (s:=⟨h,gs,dr,n,os⟩) S.k hkeep (R.C hR y S.co rfl (df.app .nil) fun v U s'' h'' as'' n'' e1 e2 y S'' p' du=>q _ _ _ _ _ _ y (S.back S'' p' e1 e2) p' du)
   | cons e rest =>
    rw [List.all_cons,Bool.and_eq_true,Bool.not_eq_true'] at hs
    exact to hkeep (aV hs.1) (ci hs.2).1 main
end
end
section
open PySem PySem.W PyProof.Rows PySem.Calls Builtin Builtin.ObjectAttr
section
variable {w:World} {ρ:Rho} {O:Opq} {d:Nat} {r:Rc} {post:Fl->St->Prop} {env:Env} {A:Around} {gs:Array GenState} {dr:Drawn} {os:OsState} {G:Gr} {Er:Value->Shared->Prop}
theorem wk {as:List Addr} {cl:List (Str×Nat)} (hcc:∀x i,cl.lookup x=some i->∃a,as[i]? = some a/\env.cells.lookup x=some a) {names:List (Str×NameKind)} {acc:List (Str×Nat)} {Acc:List (Str×Addr)} {res:List (Str×Nat)}
  (e:eJ cl names acc=some res) (x:All2 (fun (p:Str×Nat) (q:Str×Addr)=>p.1=q.1/\as[p.2]? = some q.2) acc Acc) :
  ∃Res,All2 (fun (p:Str×Nat) (q:Str×Addr)=>p.1=q.1/\as[p.2]? = some q.2) res Res/\(forIn names Acc fun (x:Str×NameKind) cs=>if x.2 == .free then (do let c <- cellOf env x.1; pure (ForInStep.yield ((x.1,c)::cs))) else pure (ForInStep.yield cs):Sem (List (Str×Addr)))=pure Res:=by
 induction names generalizing acc Acc with
 | nil=>exact ⟨Acc,aG e▸x,rfl⟩
 | cons p r ih =>
  obtain ⟨n,k⟩:=p
  unfold eJ at e
  rw [List.forIn_cons]
  by_cases hk:(k == .free)=true
  ·rw [if_pos hk] at e
   induction ei:cl.lookup n with
   | none=>rw [ei] at e; exact ap e
   | some i =>
    rw [ei] at e
    obtain ⟨a,a1,a2⟩:=hcc n i ei
    obtain ⟨Res,r1,r2⟩:=ih (Acc:=(n,a)::Acc) e (.cons ⟨rfl,a1⟩ x)
    refine ⟨Res,r1,?_⟩
    have hc:cellOf env n=pure a:=by unfold cellOf; exact aa a2 rfl
    dsimp only
    refine aa (if_pos hk) (aa hc ?_)
    simpa using r2
  ·rw [if_neg hk] at e
   obtain ⟨Res,r1,r2⟩:=ih e x
   refine ⟨Res,r1,?_⟩
   dsimp only
   refine aa (if_neg hk) ?_
   simpa using r2
theorem fX {as:List Addr} {cl res:List (Str×Nat)} {csc:Scope} (hcc:∀x i,cl.lookup x=some i->∃a,as[i]? = some a/\env.cells.lookup x=some a) (e:eJ cl csc.names []=some res) :
  ∃Res,closureFor csc env=pure Res/\∀x i,res.lookup x=some i->∃a,as[i]? = some a/\Res.lookup x=some a:=by
 apply bc;intro ng
 obtain ⟨Res,r1,r2⟩:=wk hcc e .nil
 apply ng;clear ng
 refine ⟨Res,?_,fun x i ei=>?_⟩
 ·show (forIn csc.names [] (fun x cs=>if x.2 == .free then (do let c <- cellOf env x.1; pure (ForInStep.yield ((x.1,c)::cs))) else pure (ForInStep.yield cs)) >>= fun z=>pure z:Sem (List (Str×Addr)))=pure Res
  refine aa r2 ?_
  simp
 ·clear r2 e
  induction r1 with
  | nil=>exact ap ei
  | @cons a b l m h _ ih =>
   simp only [List.lookup] at ei ⊢
   refine aa (Eq.symm h.1) ?_
   induction q:x == a.1 with
   | true=>rw [q] at ei; cases ei; exact ⟨b.2,h.2,rfl⟩
   | false=>rw [q] at ei; exact ih ei
theorem SR.outX {env:Env} {h h':Heap} {s:St} {as:List Addr} (S:SR w ρ O G env h s as) (hs:Heap.SameBut env.locals h h'):Co w ρ O G h' s.ob s.pc as :=
 ⟨S.bs,fun a o e=>(hs.2 a fun q=>by rw [q,S.fL] at e; exact ap e).trans (S.kp a o e),S.og,S.sz,fun i o a e e'=>by
  obtain ⟨x,y⟩:=S.ob i o a e e'
  exact ⟨x.keep .refl fun ow x' ex=>(hs.2 a (y ow).1).trans ex,fun ow=>(y ow).2⟩,S.nd,S.pc⟩
theorem tG (R:Snd w ρ O d r) {x:Str} {px:Pos} {elt iter:Expr} {csc:Scope} {pos:Pos} {m acc:Nat} {it ac:Addr} {k:St->Tr} {RR:Result->Shared->Prop} (hR:Room A d) {as₀:List Addr}
  (q:∀s' h' as' n' ys,(k s').ok ρ post->SR w ρ O G env h' s' as'->Pre as₀ as'->s'.ob[acc]? = some (.lst ys)->RR (.ok .next) ⟨h',gs,dr,n',os⟩) {nn:Nat} {s:St} {h:Heap} {n:Nat} {as:List Addr} (y:(lT r env.scope x elt m acc k nn s).ok ρ post) (S:SR w ρ O G env h s as) (p₀:Pre as₀ as)
  (hm:as[m]? = some it) (ha:as[acc]? = some ac) (hy:∃ys,s.ob[acc]? = some (.lst ys)) (hma:m≠acc) :
  codeAny (model pr w) A (.compLoop (.ListComp elt [⟨.Name x px,iter,[],0⟩] csc pos) 0 (.ref it) (.ref ac) env) RR ⟨h,gs,dr,n,os⟩:=by
 refine codeAny_compLoop_list (fun nn st=>∃s h n as,st=⟨h,gs,dr,n,os⟩/\(lT r env.scope x elt m acc k nn s).ok ρ post/\SR w ρ O G env h s as/\Pre as₀ as/\as[m]? = some it/\as[acc]? = some ac/\∃ys,s.ob[acc]? = some (.lst ys)) (fun nn st I=>?_) nn ⟨s,h,n,as,rfl,y,S,p₀,hm,ha,hy⟩
 apply bc;intro ng
 obtain ⟨s,h,n,as,rfl,y,S,p₀,hm,ha,ys,hy⟩:=I
 apply ng;clear ng
 induction nn using Nat.casesOn with
 | zero=>exact y.elim
 | succ nn =>
  apply bc;intro ng
  obtain ⟨p,ep,y⟩:=af y
  apply ng;clear ng
  refine oF hR.hd S hm ep (fun v V h' ev dv S=>?_) fun h' ev S=>?_
  ·rw [ev] at y
   refine wpAny_assign_Name (aW y S dv fun s2 h2 n2 y S2=>?_)
   refine R.E hR y S2 fun u U s3 h3 as3 n3 y S3 p3 du=>?_
   apply bc;intro ng
   obtain ⟨ys',ey,y⟩:=af y
   obtain ⟨hl,y⟩:=aj y
   have hl:=of_decide_eq_true hl
   obtain ⟨o,ey,eo⟩:=az ey
   rw [cy eo] at ey
   obtain ⟨ac',b1,b2,b4⟩:=S3.get ey
   rw [p3.get ha] at b1
   rw [<- aG b1] at b2
   obtain ⟨Vs,b2,b3⟩:=b2
   apply ng;clear ng
   have l:h3.IsList ac Vs.toArray:=b3
   refine wpAny_list_append (s:=⟨h3,gs,dr,n3,os⟩) l (fun h4 l4 hs=>?_) (by have:=b2.len; simp; refine aa sizeLine_eq ?_; omega)
   have l4':h4.IsList ac (Vs++[U]).toArray:=by
    have z:Vs.toArray.push U=(Vs++[U]).toArray:=by simp
    rw [z] at l4; exact l4
   exact ⟨nn,Nat.lt_succ_self _,_,_,_,_,rfl,y,S3.obj (o':=.lst (ys'++[u])) ey rfl (p3.get ha) hs ⟨Vs++[U],b2.app (.cons du .nil),l4'⟩,p₀.trans p3,p3.get hm,p3.get ha,_,List.getElem?_set_self (List.getElem?_eq_some_iff.mp ey).1⟩
  ·rw [ev] at y
   exact q _ _ _ _ ys y S p₀ (by refine aa (List.getElem?_set_ne hma) ?_; exact hy)
theorem Co.enterC {h h₁:Heap} {ob:List AO} {pc:List (CE×Bool)} {as:List Addr} {ls:List (Str×AV)} {cl:List (Str×Nat)} {f:Str->Option Value} (S:Co w ρ O G h ob pc as) (k:h.StaysIn h₁) (eL:env.locals=h.objs.size) (eg:env.globals=mainGlobals) (eb:env.builtins=builtinsNs)
  (ek:env.scope.kind = .function) (hns:h₁.Ns h.objs.size f) (hl:∀x v,ls.lookup x=some v->∃V,f x=some V/\Dn ρ as v V) (hcc:∀x i,cl.lookup x=some i->∃a,as[i]? = some a/\env.cells.lookup x=some a):SR w ρ O G env h₁ ⟨ls,cl,ob,pc⟩ as:=by
 refine ⟨S.bs,fun a o e=>k _ _ (S.kp a o e),S.og,?_,eg,eb,ek,⟨_,eL▸hns,hl⟩,hcc,S.sz,fun i o a e e'=>?_,S.nd,S.pc⟩
 ·refine aa eL ?_
  induction q:G h.objs.size with
  | none=>rfl
  | some x=>exact absurd (Heap.lt_size (S.kp _ _ q)) (Nat.lt_irrefl _)
 ·obtain ⟨x,y⟩:=S.ob i o a e e'
  refine ⟨x.keep .refl (fun zw x ex=>k _ _ ex),fun ow=>⟨?_,y ow⟩⟩
  refine aa eL ?_; exact Nat.ne_of_lt (x.lt ow)
theorem eN {csc:Scope} {x:Str} (h:c9 csc x=true):(∀y∈csc.names,y.2≠.cell)/\csc.kind = .function/\(∀y∈csc.names,y.2 = .local->csc.names.lookup y.1=some .local)/\csc.names.lookup x=some .local:=by
 unfold c9 at h
 simp only [Bool.and_eq_true,List.all_eq_true,decide_eq_true_eq,beq_iff_eq,Bool.or_eq_true,Bool.not_eq_true',beq_eq_false_iff_ne] at h
 apply bc;intro ng
 obtain ⟨⟨⟨a,b⟩,c⟩,d⟩:=h
 apply ng;clear ng
 exact ⟨a,b,fun y m e=>(c y m).resolve_left fun z=>z e,d⟩
theorem qd (R:Snd w ρ O d r) (hR:Room A d) {x:Str} {px:Pos} {elt iter:Expr} {csc:Scope} {pos:Pos} {cl:List (Str×Nat)} {Res:List (Str×Addr)} {it:Addr} {io:AO} {s:St} {k:AV->St->Tr} {h h1:Heap} {n:Nat} {as:List Addr} {Q:Value->Shared->Prop}
  (ck:(∀y∈csc.names,y.2≠.cell)/\csc.kind = .function/\(∀y∈csc.names,y.2 = .local->csc.names.lookup y.1=some .local)/\csc.names.lookup x=some .local)
  (hcc:∀x i,cl.lookup x=some i->∃a,as[i]? = some a/\Res.lookup x=some a) (S:SR w ρ O G env h s as) (S1:SR w ρ O G env h1 { s with ob:=s.ob++[io] } (as++[it]))
  (y:(lT r (bL csc env.scope) x elt s.ob.length (s.ob.length + 1) (fun s'=>k (.loc (s.ob.length + 1)) { s' with ls:=s.ls,cl:=s.cl }) 40 ⟨[],cl,s.ob++[io]++[.lst []],s.pc⟩).ok ρ post)
  (hit:∀{E:Value->Shared->Prop} {Q:Value->Shared->Prop} {h2:Heap},h1.StaysIn h2->Q (.ref it) ⟨h2,gs,dr,n,os⟩->wpAny (model pr w) A (pyIter (.ref it)) Q E ⟨h2,gs,dr,n,os⟩)
  (q:∀v V s' h' as' n',(k v s').ok ρ post->SR w ρ O G env h' s' as'->Pre as as'->Dn ρ as' v V->Q V ⟨h',gs,dr,n',os⟩) :
  wpAny (model pr w) A (newList []) (fun acc s₃=>wpAny (model pr w) A (newFunctionEnv csc env.globals Res [] env.qual none .none (some env)) (fun cenv s₄ =>
    codeAny (model pr w) A (.compStart (.ListComp elt [⟨.Name x px,iter,[],0⟩] csc pos) 0 (.ref it) acc { cenv with scope:=relabel csc env }) (compPost (model pr w) A Er none Q acc cenv.locals) s₄) Er s₃) Er ⟨h1,gs,dr,n,os⟩:=by
 apply bc;intro ng
 obtain ⟨c1,c2,c3,c4⟩:=ck
 apply ng;clear ng
 have S2:=S1.push { cls:=.type "list",data:=.seq #[] } (ao:=.lst []) ⟨[],.nil,_,Heap.get?_push_size _ rfl,rfl,_,rfl⟩
 refine wpAny_newObj_type (s:=⟨h1,gs,dr,n,os⟩) ?_ (Nat.zero_le _)
 generalize hH:h1.push { cls:=.type "list",data:=.seq #[] }=H2 at S2
 have kH:h1.StaysIn H2:=hH▸fun zw zw e=>Heap.get?_push_of_some _ e
 refine wpAny_newFunctionEnv (s:=⟨H2,gs,dr,n,os⟩) c1 (by intro y hy; simp at hy) (fun h₁ hns hsb=>?_) c2
 dsimp only at hns hsb
 have kk:H2.StaysIn h₁:=fun b o e=>hsb.extBut b o (Nat.ne_of_lt (Heap.lt_size e)) (Heap.get?_push_of_some _ e)
 have SC:SR w ρ O (iI G H2 env.locals) (compEnvC csc Res H2.objs.size env) h₁ ⟨[],cl,s.ob++[io]++[.lst []],s.pc⟩ (as++[it]++[h1.objs.size]) :=
  S2.co.enterC kk rfl S.eg S.eb c2 hns (fun x v e=>by (exact ap e)) fun x i e=>by
   apply bc;intro ng
   obtain ⟨a,a1,a2⟩:=hcc x i e
   apply ng;clear ng
   exact ⟨a,Pre.get ⟨_,List.append_assoc ..⟩ a1,a2⟩
 have lz:=S.sz
 have loop:codeAny (model pr w) A (.compLoop (.ListComp elt [⟨.Name x px,iter,[],0⟩] csc pos) 0 (.ref it) (.ref h1.objs.size) (compEnvC csc Res H2.objs.size env)) (compPost (model pr w) A Er none Q (.ref h1.objs.size) H2.objs.size) ⟨h₁,gs,dr,n,os⟩:=by
  refine tG (env:=compEnvC csc Res H2.objs.size env) R hR (as₀:=as++[it]++[h1.objs.size]) (fun s' h' as' n' ys y S3 p3 hys=>?_) y SC .refl (by rw [<- lz,List.append_assoc,List.getElem?_append_right (by (first | lia | omega))]; simp) (by rw [<- lz,List.append_assoc,List.getElem?_append_right (by (first | lia | omega))]; simp)
   ⟨[],by rw [List.append_assoc,List.getElem?_append_right (by (first | lia | omega))]; simp⟩ (by (first | lia | omega))
  apply bc;intro ng
  obtain ⟨f,N,-⟩:=S3.lc
  apply ng;clear ng
  refine ⟨f,N,fun h3 hs=>?_⟩
  refine q _ _ _ _ _ _ y (S2.back (s':={ s' with ls:=s.ls,cl:=s.cl }) (S3.outX hs) p3 rfl rfl) (Pre.trans ⟨_,List.append_assoc ..⟩ p3) ⟨h1.objs.size,p3.get ?_,rfl⟩
  rw [<- lz,List.append_assoc,List.getElem?_append_right (by (first | lia | omega))]; simp
 exact codeAny_compStart_list loop (hit (fun b o e=>kk _ _ (kH _ _ e)) loop)
end
end
section
open PySem PySem.W PyProof.Rows PySem.Calls Builtin Builtin.ObjectAttr
section
variable {w:World} {ρ:Rho} {O:Opq} {d:Nat} {r:Rc} {post:Fl->St->Prop} {env:Env} {A:Around} {gs:Array GenState} {dr:Drawn} {os:OsState} {G:Gr} {Er:Value->Shared->Prop}
theorem v7 {e:Expr} {q:Expr×Str×Pos} (h:oQ e=some q):e = .Attribute q.1 q.2.1 q.2.2:=by
 induction e using Expr.casesOn <;> first | exact congrArg (fun q:Expr×Str×Pos=>Expr.Attribute q.1 q.2.1 q.2.2) (aG h) | exact ap h
theorem gF {func:Expr} {args:List Expr} {pos:Pos} {env:Env} (h:oQ func=none):eval (.Call func args [] pos) env=(do callWith pos (<- eval func env) [] (backTo pos (starEach args env)) (backToKw pos (keywordEach [] env))):=by
 induction func using Expr.casesOn <;> first | rfl | exact ap h.symm
set_option tactic.hygienic true
theorem nM {i:Nat} {x:Addr} {vs:List AV} {Vs:List Value} {s:St} {k:AV->St->Tr} {h:Heap} {n:Nat} {as:List Addr} {Q:Value->Shared->Prop} (y:(oh i vs s k).ok ρ post) (S:SR w ρ O G env h s as) (e':as[i]? = some x) (dv:All2 (Dn ρ as) vs Vs)
  (q:∀s' h' n',(k .none s').ok ρ post->SR w ρ O G env h' s' as->Q .none ⟨h',gs,dr,n',os⟩):wpAny (model pr w) A (call (.builtin "list.append") (.ref x::Vs)) Q Er ⟨h,gs,dr,n,os⟩:=by
 apply bc;intro ng
 obtain ⟨r,e,y⟩:=af y
 obtain ⟨em,ev⟩:=ah e
 apply ng;clear ng
 rw [ba ev] at dv
 cases dv; rename_i V1 _ d1 dn; cases dn
 apply bc;intro ng
 obtain ⟨x',a1,a2,-⟩:=S.get em
 apply ng;clear ng
 rw [e'] at a1
 rw [<- aG a1] at a2
 have app:∀{Us:List Value} {o':AO},At h.get? x (.pl Us)->Us.length<=1000->r.1.own=true->(k .none { s with ob:=s.ob.set i o' }).ok ρ post->(∀h':Heap,At h'.get? x (.pl (Us++[V1]))->aC ρ O as h' x o')->
   wpAny (model pr w) A (call (.builtin "list.append") [.ref x,V1]) Q Er ⟨h,gs,dr,n,os⟩:=fun {Us o'} a3 hz ow y z=>by
  have l:h.PlainList x Us.toArray:=let ⟨o,e1,n1,e2⟩:=a3; ⟨n1,e2▸e1⟩
  refine wpAny_list_append_plain (s:=⟨h,gs,dr,n,os⟩) l (fun h' l' hs=>?_) (by simp; refine aa sizeLine_eq ?_; (first | lia | omega))
  have l2:At h'.get? x (.pl (Us++[V1])):=by
   apply bc;intro ng
   obtain ⟨n2,e2⟩:=l'
   apply ng;clear ng
   exact ⟨_,e2,n2,by simp⟩
  exact q _ _ _ y (S.obj em ow e' hs (z h' l2))
 apply bc;intro ng
 rcases cG y with ⟨us,eu,y⟩ | ⟨-,y⟩ <;> refine ng ?_ <;> clear ng
 ·rw [lp eu] at a2
  apply bc;intro ng
  obtain ⟨Us,a2,a3⟩:=a2
  obtain ⟨hl,y⟩:=aj y
  apply ng;clear ng
  exact app a3 (by have ll:=a2.len; have hl:=of_decide_eq_true hl; (first | lia | omega)) (by refine aa (lp eu) ?_; rfl) y fun h' l2=>⟨_,a2.app (.cons d1 .nil),l2⟩
 ·obtain ⟨z,ez,y⟩:=af y
  apply bc;intro ng
  obtain ⟨e1,e2⟩:=ah ez
  rw [o9 e1] at a2
  rw [cO e2] at d1
  obtain ⟨Us,a2,a3⟩:=a2
  obtain ⟨t,rfl⟩:=d1
  obtain ⟨hz,y⟩:=y
  apply ng;clear ng
  have hz:(ρ.l z.1.1).length + z.1.2.length<=1000:=hz
  refine app a3 (by have ll:=a2.length; simp at ll; (first | lia | omega)) (by refine aa (o9 e1) ?_; rfl) y fun h' l2=>⟨_,?_,l2⟩
  rw [List.map_append,<- List.append_assoc]
  exact a2.append (.cons _ _ .nil)
set_option tactic.hygienic false
section
variable {s:St} {k:AV->St->Tr} {h:Heap} {n:Nat} {as:List Addr} {Q:Value->Shared->Prop}
theorem rz (R:Snd w ρ O d r) {op:BoolOp} {vs:List Expr} {pos:Pos} (hR:Room A d) (y:(zq r env.scope op vs pos s k).ok ρ post) (S:SR w ρ O G env h s as)
  (q:∀v V s' h' as' n',(k v s').ok ρ post->SR w ρ O G env h' s' as'->Pre as as'->Dn ρ as' v V->Q V ⟨h',gs,dr,n',os⟩):wpAny (model pr w) A (eval (.BoolOp op vs pos) env) Q Er ⟨h,gs,dr,n,os⟩:=by
 induction vs using List.casesOn with
 | nil=>exact y.elim
 | cons a rest =>
  induction rest using List.casesOn with
  | nil=>exact PyProof.Rows.BoolOp_one (R.E hR y S q)
  | cons b rest =>
   cases op with
   | And =>
    refine PyProof.Rows.BoolOp_and (R.E hR y S fun v V s' h' as' n' y S' p dv=>?_)
    refine ip y S' dv fun c s3 n3 y S3=>?_
    induction c with
    | true=>exact R.E hR y S3 fun v V s' h' as' n' y S' p' dv=>q _ _ _ _ _ _ y S' (p.trans p') dv
    | false=>exact q _ _ _ _ _ _ y S3 p dv
   | Or =>
    refine PyProof.Rows.BoolOp_or (R.E hR y S fun v V s' h' as' n' y S' p dv=>?_)
    refine ip y S' dv fun c s3 n3 y S3=>?_
    induction c with
    | false=>exact R.E hR y S3 fun v V s' h' as' n' y S' p' dv=>q _ _ _ _ _ _ y S' (p.trans p') dv
    | true=>exact q _ _ _ _ _ _ y S3 p dv
theorem pZ (R:Snd w ρ O d r) {a:Expr} {ops:List CmpOp} {cs:List Expr} {pos:Pos} (hR:Room A d) (y:(rU r env.scope a ops cs s k).ok ρ post) (S:SR w ρ O G env h s as)
  (q:∀v V s' h' as' n',(k v s').ok ρ post->SR w ρ O G env h' s' as'->Pre as as'->Dn ρ as' v V->Q V ⟨h',gs,dr,n',os⟩):wpAny (model pr w) A (eval (.Compare a ops cs pos) env) Q Er ⟨h,gs,dr,n,os⟩:=by
 have hu:A.units < cLine:=by have:=hR.un; (first | lia | omega)
 apply bc;intro ng
 rcases cG y with ⟨z,e,y⟩ | ⟨-,y⟩ <;> refine ng ?_ <;> clear ng
 ·obtain ⟨e1,e2⟩:=ah e
  refine aa (ba e1) (aa (ba e2) ?_)
  apply bc;intro ng
  rcases cF y with ⟨-,y⟩ | ⟨hm,y⟩ <;> refine ng ?_ <;> clear ng
  ·exact y.elim
  refine wpAny_Compare1 (R.E hR y S fun v V s' h' as' n' y S' p dv=>?_) hm
  refine R.E hR y S' fun u U s'' h'' as'' n'' y S'' p' du=>?_
  exact dL hu y S'' (dv.pre p') du fun c s3 n3 y S3=>q _ _ _ _ _ _ y S3 (p.trans p') rfl
 ·obtain ⟨z,e,y⟩:=af y
  apply bc;intro ng
  obtain ⟨e1,e2⟩:=ah e
  apply ng;clear ng
  refine aa (ch e1) (aa (ch e2) ?_)
  apply bc;intro ng
  rcases cF y with ⟨-,y⟩ | ⟨hm,y⟩ <;> refine ng ?_ <;> clear ng
  ·exact y.elim
  refine PyProof.Rows.Compare_chain (R.E hR y S fun v V s' h' as' n' y S' p dv=>?_) hm
  refine PyProof.Rows.chain_link (R.E hR y S' fun u U s'' h'' as'' n'' y S'' p' du=>?_)
  refine dL hu y S'' (dv.pre p') du fun c s3 n3 y S3=>wpAny_truthy_bool ?_
  induction c with
  | true =>
   refine PyProof.Rows.chain_last (R.E hR y S3 fun z Z s4 h4 as4 n4 y S4 p4 dz=>?_)
   exact dL hu y S4 (du.pre p4) dz fun c s3 n3 y S3=>q _ _ _ _ _ _ y S3 ((p.trans p').trans p4) rfl
  | false=>exact q _ _ _ _ _ _ y S3 (p.trans p') rfl
theorem ou {P:Params} {C:Addr} {name:Str} {f:Addr} (e:((findIn (K P) (.ref C) name).bind id).bind eS = some f):findIn (K P) (.ref C) name=some (some (.ref f)):=by
 apply bc;intro ng
 obtain ⟨v,e,e3⟩:=az e
 obtain ⟨u,e1,e2⟩:=az e
 apply ng;clear ng
 exact aa e1 (aa (show u=some v from e2) (aa (rT e3) rfl))
theorem sP (R:Snd w ρ O d r) {o:Expr} {name:Str} {apos:Pos} {args:List Expr} {pos:Pos} (hR:Room A d) (y:(zC w.params r env.scope o name apos args pos s k).ok ρ post) (S:SR w ρ O G env h s as)
  (q:∀v V s' h' as' n',(k v s').ok ρ post->SR w ρ O G env h' s' as'->Pre as as'->Dn ρ as' v V->Q V ⟨h',gs,dr,n',os⟩):wpAny (model pr w) A (eval (.Call (.Attribute o name apos) args [] pos) env) Q Er ⟨h,gs,dr,n,os⟩:=by
 apply bc;intro ng
 obtain ⟨hc,y⟩:=aj y
 apply ng;clear ng
 have c4:=au hc
 have c3:=iw (au (ag hc))
 have c2:=of_decide_eq_true (au (ag (ag hc)))
 have c1:=ag (ag (ag hc))
 clear hc
 have few:methodCallForm (args.length + 0) (backTo pos (starEach args env)) []=true:=by
  apply bc;intro ng
  obtain ⟨z1,z2⟩:=ci (pos:=pos) (env:=env) c4
  apply ng;clear ng
  unfold methodCallForm
  rw [show (List.all (backTo pos (starEach args env)) fun x=>!x.1)=true from by
   refine aa List.all_eq_not_any_not ?_; simp only [Bool.not_not]; refine aa z1 ?_; rfl]
  simp; (first | lia | omega)
 have mp:methodCallPos true o env apos pos=pure pos:=by unfold methodCallPos; refine aa c1 ?_; simp
 show wpAny (model pr w) A (do
  let ov <- attributeBase o name env (eval o env)
  standAt apos.atName
  methodCall o name apos pos env ov (args.length + 0) (backTo pos (starEach args env)) []) Q Er _
 refine aa (eR c3) ?_
 refine wpAny_bind (R.E hR y S fun v V s' h' as' n' y S' p dv=>wpAny_bind (wpAny_standAt ?_))
 unfold methodCall
 refine aa few ?_
 apply bc;intro ng
 obtain ⟨i,ei,y⟩:=af y
 rw [bM ei] at dv
 obtain ⟨x,e',rfl⟩:=dv
 apply ng;clear ng
 apply bc;intro ng
 rcases cG y with ⟨z,en,y⟩ | ⟨-,y⟩ <;> refine ng ?_ <;> clear ng
 ·obtain ⟨dx,Fs,o',a2,-,a4,N,B,I⟩:=kf S' e' en
  apply bc;intro ng
  obtain ⟨hp,y⟩:=aj y
  have pl:=iC (ag hp)
  have zz:=bn B (n:=name)
  rw [Option.isNone_iff_eq_none.mp (au hp)] at zz
  obtain ⟨fm,hf,y⟩:=af y
  obtain ⟨ht,y⟩:=aj y
  apply ng;clear ng
  refine wpAny_bind (wpAny_holding ?_)
  show wpAny (model pr w) A (getMethod (.ref x) name _) _ Er _
  refine method_fn (s:=⟨h',gs,dr,n',os⟩) S'.k I pl.ga pl.gt (ou hf) (aD (ag ht)) (by show (lookIn name o').map (·.isSome)=_; rw [gO N,zz]; rfl) ?_
  refine wpAny_bind (wpAny_of_eq mp ?_)
  exact zt (fv:=.glb (.ref fm)) (first:=[.loc i]) (First:=[.ref x]) R hR c4 (au ht) (.inl ⟨_,rfl⟩) y S' rfl (.cons ⟨_,e',rfl⟩ .nil) fun v V s3 h3 as3 n3 y S3 p3 dv=>q _ _ _ _ _ _ y S3 (p.trans p3) dv
 ·obtain ⟨hnm,y2⟩:=aj y
  clear y
  have hn1:=aD (ag (ag hnm))
  apply bc;intro ng
  subst hn1
  obtain ⟨e,rfl⟩:=List.length_eq_one_iff.mp (of_decide_eq_true (au (ag hnm)))
  have c4':aK e=false:=by simpa using c4
  obtain ⟨o1,z1,z2,z3⟩:∃o1,h'.get? x=some o1/\o1.cls = .type "list"/\o1.dict=none:=by
   have hnm:=au hnm
   induction em:s'.ob[i]? with
   | none=>rw [em] at hnm; exact bG hnm
   | some ao =>
    rw [em] at hnm
    have hnm:(ao.pl?.isSome || ao.il?.isSome)=true:=hnm
    obtain ⟨x2,a1,a2,-⟩:=S'.get em
    rw [e'] at a1
    rw [<- aG a1] at a2
    cases ao <;> try exact bG hnm
    ·obtain ⟨Us,a2,o1,a3,n1,a4⟩:=a2
     exact ⟨o1,a3,by exact aa a4 rfl,by exact aa a4 rfl⟩
    ·obtain ⟨Us,a2,o1,a3,n1,a4⟩:=a2
     exact ⟨o1,a3,by exact aa a4 rfl,by exact aa a4 rfl⟩
  apply ng;clear ng
  refine wpAny_bind (wpAny_holding (Calls.getMethod_list_append (s:=⟨h',gs,dr,n',os⟩) z1 z2 z3 ?_))
  refine wpAny_bind (wpAny_of_eq mp ?_)
  have ev:backTo pos (starEach [e] env)=(false,eval e env)::backTo pos (starEach [] env):=by refine aa (aV c4') ?_; rfl
  refine aa ev ?_
  refine Calls.callWith_builtin rfl (Calls.evalArgs_plain ?_)
  refine aa (Eq.symm ev) ?_
  exact cR R hR y2 S' fun vs Vs s'' h'' as'' n'' y S'' p' dvs zw=>nM y S'' (p'.get e') dvs fun s3 h3 n3 y S3=>q _ _ _ _ _ _ y S3 (p.trans p') rfl
theorem qO (R:Snd w ρ O d r) {f:Expr} {args:List Expr} {pos:Pos} (hR:Room A d) (hf:oQ f=none) (y:(uF w.params r env.scope f args s k).ok ρ post) (S:SR w ρ O G env h s as)
  (q:∀v V s' h' as' n',(k v s').ok ρ post->SR w ρ O G env h' s' as'->Pre as as'->Dn ρ as' v V->Q V ⟨h',gs,dr,n',os⟩):wpAny (model pr w) A (eval (.Call f args [] pos) env) Q Er ⟨h,gs,dr,n,os⟩:=by
 obtain ⟨hc,y⟩:=aj y
 refine Call_ (R.E hR y S fun v V s' h' as' n' y S' p dv=>?_) (gF hf)
 obtain ⟨hkeep,y⟩:=aj y
 exact zt (first:=[]) (First:=[]) R hR (au hc) hkeep (.inr rfl) y S' dv .nil fun v V s3 h3 as3 n3 y S3 p3 dv=>q _ _ _ _ _ _ y S3 (p.trans p3) dv
set_option tactic.hygienic true
theorem wm {i u:Expr} (h:yN i=some u):∃p,i = .Slice none (some u) none p:=by
 induction i using Expr.casesOn <;> try exact ap h
 rename_i a b c p
 induction a with
 | some _=>exact ap h
 | none=>induction c with | some _=>exact ap h | none=>exact ⟨p,congrArg (fun b=>Expr.Slice none b none p) h⟩
set_option tactic.hygienic false
theorem sD {ov uv:AV} {V U:Value} {x z:Expr} (y:(zp ov uv s k).ok ρ post) (S:SR w ρ O G env h s as) (d:Dn ρ as ov V) (d':Dn ρ as uv U) {p:Pos}
  (q:∀v V s' h' as' n',(k v s').ok ρ post->SR w ρ O G env h' s' as'->Pre as as'->Dn ρ as' v V->Q V ⟨h',gs,dr,n',os⟩) :
  wpAny (model pr w) A (subscriptTail x (.Slice none (some z) none p) V (.ref h.objs.size)) Q Er ⟨h.push { cls:=.type "slice",data:=.fields #[.none,U,.none] },gs,dr,n,os⟩:=by
 apply bc;intro ng
 obtain ⟨r,er,y⟩:=af y
 obtain ⟨e1,e2⟩:=ah er
 obtain ⟨a,Vs,rfl,b2,b3⟩:=eB S.hat e1 d
 rw [cO e2] at d'
 obtain ⟨t,rfl⟩:=d'
 have hl:h.IsList a Vs.toArray:=b3
 have hlen:=b2.len
 obtain ⟨hz,y⟩:=aj y
 apply ng;clear ng
 have hz:=of_decide_eq_true hz
 refine ik S y fun m s3 hm ei y S3=>?_
 have hm:=hm.2
 have hp:(h.push { cls:=.type "slice",data:=.fields #[.none,.int (r.2.den ρ) t,.none] }).IsList a Vs.toArray:=hl.push _
 refine tail_any (ops:=[.ref h.objs.size,.ref a]) (T:="list") (s:=⟨h.push _,gs,dr,n,os⟩) (Heap.IsList.typeIs (s:=⟨h.push _,gs,dr,n,os⟩) hp) list_getitem_lookup ?_ rfl
 refine wpAny_getItem_list_slice (s:=⟨h.push _,gs,dr,n,os⟩) hp (Heap.IsSliceOf.new ..) .none (.int _ _) .none (by simp) ?_ (by simp; refine aa sizeLine_eq ?_; (first | lia | omega))
 refine aa ei (aa (slicePick_upto _ m (by simp; (first | lia | omega))) ?_)
 have S4:=(S3.stay (h':=h.push { cls:=.type "slice",data:=.fields #[.none,.int (r.2.den ρ) t,.none] }) fun zw zw e=>Heap.get?_push_of_some _ e).push { cls:=.type "list",data:=.seq (Vs.toArray.toList.take m).toArray } (ao:=.lst (r.1.take m)) ⟨Vs.take m,(b2.take m).mono fun zw zw z=>z.pre ⟨_,rfl⟩,_,Heap.get?_push_size _ rfl,rfl,_,rfl⟩
 rw [ei] at S4
 exact q (.loc s3.ob.length) _ _ _ _ _ y S4 ⟨_,rfl⟩ ⟨_,by refine aa (Eq.symm S3.sz) ?_; exact aX,rfl⟩
theorem ym {gs:List Comprehension} {g:Str×Expr} (h:zo gs=some g):∃p,gs = [⟨.Name g.1 p,g.2,[],0⟩]:=by
 induction gs using List.casesOn with
 | nil=>exact ap h
 | cons c r =>
  induction r using List.casesOn with
  | cons _ _=>exact ap h
  | nil =>
   apply bc;intro ng
   obtain ⟨t,it,ifs,ia⟩:=c
   obtain ⟨h0,h⟩:=cS h
   obtain ⟨x,e1,e2⟩:=gR h
   obtain ⟨p,rfl⟩:=iQ e1
   apply ng;clear ng
   subst e2
   refine ⟨p,?_⟩
   exact aa (show ifs = [] from List.isEmpty_iff.mp (ag h0)) (aa (show ia=0 from aD (au h0)) rfl)
theorem AN (R:Snd w ρ O d r) {elt:Expr} {x:Str} {px:Pos} {iter:Expr} {csc:Scope} {pos:Pos} (hR:Room A d) (y:(Mn r env.scope elt x iter csc s k).ok ρ post) (S:SR w ρ O G env h s as)
  (q:∀v V s' h' as' n',(k v s').ok ρ post->SR w ρ O G env h' s' as'->Pre as as'->Dn ρ as' v V->Q V ⟨h',gs,dr,n',os⟩):wpAny (model pr w) A (eval (.ListComp elt [⟨.Name x px,iter,[],0⟩] csc pos) env) Q Er ⟨h,gs,dr,n,os⟩:=by
 apply bc;intro ng
 obtain ⟨hc,y⟩:=aj y
 have ck:=eN (au hc)
 obtain ⟨cl,hcl,y⟩:=af y
 obtain ⟨Res,r1,r2⟩:=fX S.cc hcl
 apply ng;clear ng
 rw [eval_ListComp]
 refine wpAny_comprehension_free (use:=none) rfl (dO (iw (ag hc))) r1 ck.2.1 ck.2.2.1 (R.E hR y S fun v V s' h' as' n' y S' p dv=>?_)
 apply bc;intro ng
 obtain ⟨io,ei,y⟩:=af y
 apply ng;clear ng
 refine pD S' dv ei fun o hit S1=>?_
 exact qd R hR ck (fun x i e=>let ⟨a,a1,a2⟩:=r2 x i e; ⟨a,p.get a1,a2⟩) S' S1 y hit fun v V s3 h3 as3 n3 y S3 p3 dv=>q _ _ _ _ _ _ y S3 (p.trans p3) dv
set_option tactic.hygienic true
theorem iZ (R:Snd w ρ O d r) {e:Expr} (hR:Room A d) (y:(nY w.params r env.scope e s k).ok ρ post) (S:SR w ρ O G env h s as)
  (q:∀v V s' h' as' n',(k v s').ok ρ post->SR w ρ O G env h' s' as'->Pre as as'->Dn ρ as' v V->Q V ⟨h',gs,dr,n',os⟩):wpAny (model pr w) A (eval e env) Q Er ⟨h,gs,dr,n,os⟩:=by
 induction e using Expr.casesOn <;> try exact y.elim
 ·exact rz R hR y S q
 ·refine wpAny_BinOp (R.E hR y S fun v V s' h' as' n' y S' p dv=>?_)
  refine R.E hR y S' fun u U s'' h'' as'' n'' y S'' p' du=>?_
  exact hY y S'' (dv.pre p') du fun v V s3 h3 as3 n3 y S3 p3 dv=>q _ _ _ _ _ _ y S3 ((p.trans p').trans p3) dv
 ·rename_i op a pos
  refine wpAny_UnaryOp (R.E hR y S fun v V s' h' as' n' y S' p dv=>?_)
  cases op <;> try exact y.elim
  ·have y:(pL v s' fun b s=>k (.bool (!b)) s).ok ρ post:=y
   unfold unaryOp
   refine wpAny_holding (wpAny_bind (ip y S' dv fun c s3 n3 y S3=>wpAny_pure ?_))
   exact q _ _ _ _ _ _ y S3 p rfl
  ·obtain ⟨ie,ei,y⟩:=af y
   rw [cO ei] at dv
   obtain ⟨t,rfl⟩:=dv
   exact FV fun t n'=>q _ _ _ _ _ _ y S' p ⟨t,by exact aa tU rfl⟩
 ·refine wpAny_IfExp (R.T hR y S (fun zw=>rfl) fun c s' h' as' n' y S' p=>?_)
  induction c with
  | true=>exact R.E hR y S' fun v V s3 h' as' n' y S' p' dv=>q _ _ _ _ _ _ y S' (p.trans p') dv
  | false=>exact R.E hR y S' fun v V s3 h' as' n' y S' p' dv=>q _ _ _ _ _ _ y S' (p.trans p') dv
 ·obtain ⟨g,eg,y⟩:=af y
  obtain ⟨p,rfl⟩:=ym eg
  exact AN R hR y S q
 ·exact pZ R hR y S q
 ·obtain ⟨hk,y⟩:=aj y
  refine aa (List.isEmpty_iff.mp hk) ?_
  rcases cG y with ⟨z,ez,y⟩ | ⟨ez,y⟩
  ·refine aa (v7 ez) ?_; exact sP R hR y S q
  ·exact qO R hR ez y S q
 ·rename_i c k' pos
  cases c <;> try exact y.elim
  ·exact wpAny_Constant_none (q _ _ _ _ _ _ y S .refl rfl)
  ·exact wpAny_Constant_bool (q _ _ _ _ _ _ y S .refl rfl)
  ·exact Do fun t n'=>q _ _ _ _ _ _ y S .refl ⟨t,rfl⟩
  ·exact Ga fun t n'=>q _ _ _ _ _ _ y S .refl ⟨t,rfl⟩
 ·obtain ⟨hc,y⟩:=aj y
  rw [arm_eval_Attribute,eR (iw hc)]
  refine wpAny_bind (R.E hR y S fun v V s' h' as' n' y S' p dv=>wpAny_bind (wpAny_standAt (wpAny_bind (wpAny_holding ?_))))
  refine iN y S' dv fun u U n3 y du=>wpAny_bind (wpAny_letTemporaryGo (wpAny_pure ?_))
  exact q _ _ _ _ _ _ y S' p du
 ·rcases cG y with ⟨u,eu,y⟩ | ⟨-,y⟩
  ·obtain ⟨p,rfl⟩:=wm eu
   refine Subscript_ (R.E hR y S fun v V s' h' as' n' y S' p dv=>?_)
   refine wpAny_Slice ?_
   rw [evalPart_none,evalPart_some]
   refine wpAny_pure (R.E hR y S' fun uv U s2 h2 as2 n2 y S2 p2 du=>?_)
   refine wpAny_pure ?_
   exact sD y S2 (dv.pre p2) du fun v V s3 h3 as3 n3 y S3 p3 dv=>q _ _ _ _ _ _ y S3 ((p.trans p2).trans p3) dv
  ·obtain ⟨hs,y⟩:=aj y
   refine Subscript_ (R.E hR y S fun v V s' h' as' n' y S' p dv=>?_)
   refine R.E hR y S' fun u U s'' h'' as'' n'' y S'' p' du=>?_
   exact kY (iw hs) y S'' (dv.pre p') du fun v V s3 n3 y S3 dv=>q _ _ _ _ _ _ y S3 (p.trans p') dv
 ·exact tH y S fun v V y dv=>q _ _ _ _ _ _ y S .refl dv
 ·obtain ⟨hl,y⟩:=aj y
  have hl:=of_decide_eq_true hl
  refine List_ (cR R hR y S fun vs Vs s' h' as' n' y S' p dv hlen=>?_)
  exact AP (by (first | lia | omega)) y S' dv fun v V s3 h3 as3 n3 y S3 p3 dv=>q _ _ _ _ _ _ y S3 (p.trans p3) dv
 ·obtain ⟨hl,y⟩:=aj y
  have hl:=of_decide_eq_true hl
  refine Tuple_ (cR R hR y S fun vs Vs s' h' as' n' y S' p dv hlen=>?_)
  exact A4 (by (first | lia | omega)) y S' dv fun v V s3 h3 as3 n3 y S3 p3 dv=>q _ _ _ _ _ _ y S3 (p.trans p3) dv
set_option tactic.hygienic false
end
end
end
section
open PySem PySem.W PyProof.Rows PySem.Calls Builtin Builtin.ObjectAttr
theorem ko:∀(l init:List (Str×Value)),(forIn l init fun x s=>if (List.lookup x.fst s).isNone=true then pure (ForInStep.yield (s++[(x.fst,x.snd)])) else pure (ForInStep.yield s):Sem (List (Str×Value)))=pure (l.foldl iJ init)
 | [],init=>by simp
 | x::r,init=>by
  rw [List.forIn_cons,List.foldl_cons]
  unfold iJ
  split
  ·rw [pure_bind]; exact ko r _
  ·rw [pure_bind]; exact ko r _
noncomputable def zJ {β:Type} (names:List Str) (Us ds:List β):List (Str×β):=((names.drop (names.length - ds.length)).zip ds).foldl iJ (names.zip Us)
noncomputable def nU {β:Type} (names:List Str) (Us ds:List β):List (Str×β):=names.filterMap fun n=>((zJ names Us ds).lookup n).map (n,·)
noncomputable def lY {β:Type} (names:List Str) (Us ds:List β):Bool:=((names.take (names.length - ds.length)).filter fun n=>((names.zip Us).lookup n).isNone).isEmpty
noncomputable def sr (names:List Str) (Us ds ds':List Value) (e1 e2:Sem (List (Str×Value))):Sem (List (Str×Value)) :=
 if (decide (Us.length > names.length) && true)=true then e1 else if (!lY names Us ds')=true then e2 else
  (forIn ((names.drop (names.length - ds'.length)).zip ds') (names.zip Us) fun x s =>
   if (List.lookup x.fst s).isNone=true then pure (ForInStep.yield (s++[(x.fst,x.snd)])) else pure (ForInStep.yield s)) >>= fun sl=>pure ((names++[]).filterMap fun n=>(sl.lookup n).map (n,·))
theorem vr {fd:FuncData} {pa:List Arg} {kd:List (Option Expr)} {df:List Expr} (hp:fd.params=⟨[],pa,none,[],kd,none,df⟩) (Us:List Value):∃e1 e2:Option (Array Value)->Sem (List (Str×Value)),bindArgs fd ⟨Us,[]⟩=(seqItems? fd.defaults >>= fun o =>
  sr (pa.map PySem.Arg.arg) Us (o.getD #[]).toList ((o.getD #[]).toList.drop ((o.getD #[]).toList.length - (pa.map PySem.Arg.arg).length)) (e1 o) (e2 o)):=by
 obtain ⟨fa,fb,fc,fd',fe,ff,fg,fh,fi,fj,fk,fl,fm⟩:=fd
 dsimp only at hp
 subst hp
 exact ⟨_,_,rfl⟩
theorem um {M:Model} {A:Around} {E:Value->Shared->Prop} {s:Shared} {Q:List (Str×Value)->Shared->Prop} {names:List Str} {Us ds:List Value} {e1 e2:Sem (List (Str×Value))} (hl:Us.length<=names.length) (hl2:ds.length<=names.length)
  (hm:lY names Us ds=true) (hq:Q (nU names Us ds) s):wpAny M A (sr names Us ds (ds.drop (ds.length - names.length)) e1 e2) Q E s:=by
 refine aa (Nat.sub_eq_zero_of_le hl2) (aa List.drop_zero ?_)
 unfold sr
 refine aa hm (aa (decide_eq_false (Nat.not_lt.mpr hl)) ?_)
 show wpAny M A (_ >>= _) Q E s
 refine wpAny_bind ?_
 rw [ko,List.append_nil]
 exact wpAny_pure (wpAny_pure hq)
theorem rM {fd:FuncData} {Us:List Value} {M:Model} {A:Around} {E:Value->Shared->Prop} {s:Shared} {Q:List (Str×Value)->Shared->Prop} {ds:List Value} {od:Option (Array Value)} {pa:List Arg} {kd:List (Option Expr)} {df:List Expr}
  (hp:fd.params=⟨[],pa,none,[],kd,none,df⟩) (hd:∀(Q:Option (Array Value)->Shared->Prop),Q od s->wpAny M A (seqItems? fd.defaults) Q E s) (hds:(od.getD #[]).toList=ds) (hl:Us.length<=(pa.map PySem.Arg.arg).length) (hl2:ds.length<=(pa.map PySem.Arg.arg).length)
  (hm:lY (pa.map PySem.Arg.arg) Us ds=true) (hq:Q (nU (pa.map PySem.Arg.arg) Us ds) s):wpAny M A (bindArgs fd ⟨Us,[]⟩) Q E s:=by
 apply bc;intro ng
 obtain ⟨e1,e2,e⟩:=vr hp Us
 apply ng;clear ng
 refine aa e ?_
 apply bc;intro ng
 subst hds
 apply ng;clear ng
 exact wpAny_bind (hd _ (um hl hl2 hm hq))
theorem iE {ρ:Rho} {as:List Addr} {ls:List (Str×AV)} {Ls:List (Str×Value)} (x:All2 (Nm ρ as) ls Ls) (n:Str):(ls.lookup n).isNone=(Ls.lookup n).isNone:=by
 have z:=bn x (n:=n)
 induction e:ls.lookup n with
 | none=>rw [e] at z; refine aa z ?_; rfl
 | some v=>rw [e] at z; obtain ⟨V,z,-⟩:=z; refine aa z ?_; rfl
theorem hS {ρ:Rho} {as:List Addr}:∀(names:List Str) {vs:List AV} {Us:List Value},All2 (Dn ρ as) vs Us->All2 (Nm ρ as) (names.zip vs) (names.zip Us)
 | [],_,_,_=>by simp; exact .nil
 | n::r,_,_,.nil=>by simp; exact .nil
 | n::r,_,_,.cons h t=>by simp only [List.zip_cons_cons]; exact .cons ⟨rfl,h⟩ (hS r t)
theorem uG {ρ:Rho} {as:List Addr} {l:List (Str×AV)} {m:List (Str×Value)} (x:All2 (Nm ρ as) l m):∀{i:List (Str×AV)} {j:List (Str×Value)},All2 (Nm ρ as) i j->All2 (Nm ρ as) (l.foldl iJ i) (m.foldl iJ j):=by
 induction x with
 | nil=>exact fun y=>y
 | @cons a b l m h _ ih =>
  intro i j y
  refine aa List.foldl_cons (aa List.foldl_cons ?_)
  refine ih ?_
  unfold iJ
  refine aa (iE y a.1) (aa h.1 ?_)
  split
  ·exact y.app (.cons ⟨rfl,h.2⟩ .nil)
  ·exact y
theorem fT {ρ:Rho} {as:List Addr} {l:List (Str×AV)} {m:List (Str×Value)} (x:All2 (Nm ρ as) l m):∀names:List Str,All2 (Nm ρ as) (names.filterMap fun n=>(l.lookup n).map (n,·)) (names.filterMap fun n=>(m.lookup n).map (n,·))
 | []=>.nil
 | n::r=>by
  have z:=bn x (n:=n)
  refine aa List.filterMap_cons (aa List.filterMap_cons ?_)
  induction e:l.lookup n with
  | none=>rw [e] at z; refine aa z ?_; exact fT x r
  | some v=>rw [e] at z; obtain ⟨V,z,d⟩:=z; refine aa z ?_; exact .cons ⟨rfl,d⟩ (fT x r)
theorem qu {ρ:Rho} {as:List Addr} {names:List Str} {vs dfl:List AV} {Us ds:List Value} {ls:List (Str×AV)} (x:All2 (Dn ρ as) vs Us) (y:All2 (Dn ρ as) dfl ds) (e:pi names vs dfl=some ls) :
  Us.length<=names.length/\ds.length<=names.length/\lY names Us ds=true/\All2 (Nm ρ as) ls (nU names Us ds):=by
 apply bc;intro ng
 obtain ⟨h,e⟩:=cS e
 apply ng;clear ng
 have e:=aG e
 subst e
 have xl:=x.len; have yl:=y.len
 refine ⟨xl▸of_decide_eq_true (ag (ag h)),yl▸of_decide_eq_true (au (ag h)),?_,?_⟩
 ·unfold lY
  refine aa (Eq.symm yl) (aa (Eq.symm (show (fun n=>(List.lookup n (names.zip vs)).isNone)=fun n=>(List.lookup n (names.zip Us)).isNone from funext fun n=>iE (hS names x) n)) ?_)
  exact au h
 ·unfold nU zJ
  refine aa (Eq.symm yl) ?_
  exact fT (uG (hS _ y) (hS _ x)) names
end
section
open PySem PySem.W PyProof.Rows PySem.Calls Builtin Builtin.ObjectAttr
theorem All2.rev {α β:Type} {R:α->β->Prop} {l:List α} {m:List β} (x:All2 R l m):All2 R l.reverse m.reverse:=by
 induction x with
 | nil=>exact .nil
 | cons h _ ih=>refine aa List.reverse_cons (aa List.reverse_cons ?_); exact ih.app (.cons h .nil)
theorem of_ok {o:Obj} {fd:FuncData} (h:mZ o=some fd):o.data = .func fd:=by
 unfold mZ at h
 cases e:o.data <;> rw [e] at h <;> first | exact congrArg _ (aG h) | exact ap h
theorem BF {o:Obj} {vs:List Value} (h:jX o=some vs):∃ws n,o.data = .seq ws n/\vs=ws.toList:=by
 unfold jX at h
 cases e:o.data <;> rw [e] at h <;> first | exact ⟨_,_,rfl,(aG h).symm⟩ | exact ap h
theorem u9 {b:FuncBody} {l:List Stmt} (h:ox b=some l):b = .stmts l:=by cases b <;> first | exact congrArg _ (aG h) | exact ap h
structure FnOk (P:Params) (a:Addr) (fi:FnI) (o:Obj) (fd:FuncData):Prop where
 ho:(K P).lookup a=some o
 hd:o.data = .func fd
 hb:fd.body = .stmts fi.body
 hp:fd.params=fi.params
 hs:fd.scope=fi.scope
 hg:fd.globals=mainGlobals
 hc:fd.closure = []
 hbi:fd.builtins=builtinsNs
 hcode:codeIn (K P) fd.code fd.qualname=true
 co:fd.scope.isCoroutine=false
 gen:fd.scope.isGenerator=false
 kind:fd.scope.kind = .function
 nd:(ae fi.scope.names).Nodup
 par:∃pa kd df,fi.params=⟨[],pa,none,[],kd,none,df⟩
 dfl:sj P fd.defaults=some fi.dfl
theorem yH {P:Params} {a:Addr} {fi:FnI} (e:dN P a=some fi):∃o fd,FnOk P a fi o fd:=by
 obtain ⟨fd,e1,e⟩:=az e
 obtain ⟨o,e1,e2⟩:=az e1
 obtain ⟨body,e3,e⟩:=az e
 obtain ⟨hc,e⟩:=cS e
 obtain ⟨ds,e4,e⟩:=gR e
 subst e
 refine ⟨o,fd,e1,of_ok e2,u9 e3,rfl,rfl,?_,?_,?_,?_,?_,?_,?_,?_,?_,e4⟩
 ·exact aD (ag (ag (ag (ag (ag (ag (ag (ag (ag (ag (ag hc)))))))))))
 ·exact List.isEmpty_iff.mp (au (ag (ag (ag (ag (ag (ag (ag (ag (ag (ag hc)))))))))))
 ·exact aD (au (ag (ag (ag (ag (ag (ag (ag (ag (ag hc))))))))))
 ·exact au (ag (ag (ag (ag (ag (ag (ag (ag hc))))))))
 ·exact iw (au (ag (ag (ag (ag (ag (ag (ag hc))))))))
 ·exact iw (au (ag (ag (ag (ag (ag (ag hc)))))))
 ·exact aD (au (ag (ag (ag (ag (ag hc))))))
 ·exact of_decide_eq_true (au (ag (ag (ag (ag hc)))))
 ·have p1:=List.isEmpty_iff.mp (au (ag (ag (ag hc))))
  have p2:=Option.isNone_iff_eq_none.mp (au (ag (ag hc)))
  have p3:=List.isEmpty_iff.mp (au (ag hc))
  have p4:=Option.isNone_iff_eq_none.mp (au hc)
  revert p1 p2 p3 p4
  generalize fd.params=p
  obtain ⟨a,b,c,d,e,f,g⟩:=p
  intro p1 p2 p3 p4
  dsimp only at p1 p2 p3 p4
  subst p1 p2 p3 p4
  exact ⟨_,_,_,rfl⟩
theorem nC {ρ:Rho} {as:List Addr}:∀vs:List Value,All2 (Dn ρ as) (vs.map jD) vs
 | []=>.nil
 | v::r=>.cons mi (nC r)
section
variable {w:World} {ρ:Rho} {O:Opq} {d:Nat} {r:Rc} {post:Fl->St->Prop} {A:Around} {gs:Array GenState} {dr:Drawn} {os:OsState} {G:Gr} {Er:Value->Shared->Prop}
theorem lj {kd:Str->Option NameKind} {y:Str} (hy:kd y=some .local):∀(binds:List (Str×Value)) (m:Str->Option Value),bindL kd binds m y=(binds.reverse.lookup y).or (m y)
 | [],m=>by simp [bindL]
 | (n,v)::r,m=>by
  unfold bindL
  rw [lj hy r,List.reverse_cons,List.lookup_append]
  by_cases e:y=n
  ·subst e; simp [hy,List.lookup]
  ·have:(y == n)=false:=beq_eq_false_iff_ne.mpr e
   simp only [List.lookup,this]
   split
   ·dsimp only; refine aa (if_neg e) ?_; simp
   ·simp
theorem lQ {kd:Str->Option NameKind} {y:Str} (hy:¬kd y=some .local):∀(binds:List (Str×Value)) (m:Str->Option Value),bindC kd binds m y=(binds.reverse.lookup y).or (m y)
 | [],m=>by simp [bindC]
 | (n,v)::r,m=>by
  unfold bindC
  rw [lQ hy r,List.reverse_cons,List.lookup_append]
  by_cases e:y=n
  ·subst e; simp [hy,List.lookup]
  ·have:(y == n)=false:=beq_eq_false_iff_ne.mpr e
   simp only [List.lookup,this]
   split
   ·simp
   ·dsimp only; rw [if_neg e]; simp
theorem cY {β:Type} {p:Str->Bool} {x:Str} {v:β}:∀{l:List (Str×β)},(l.filter fun y=>p y.1).lookup x=some v->l.lookup x=some v/\p x=true
 | [],e=>by exact ap e
 | (n,u)::r,e=>by
  rw [List.filter_cons] at e
  split at e
  ·rename_i hp
   simp only [List.lookup] at e ⊢
   induction q:x == n with
   | true=>rw [q] at e; refine aa (beq_iff_eq.mp q) ?_; exact ⟨e,hp⟩
   | false=>rw [q] at e; exact cY e
  ·rename_i hp
   obtain ⟨z1,z2⟩:=cY e
   simp only [List.lookup]
   induction q:x == n with
   | true=>rw [beq_iff_eq.mp q] at z2; exact absurd z2 hp
   | false=>exact ⟨z1,z2⟩
theorem iz {names:List (Str×NameKind)} {x:Str} (m:Nat) (h:((cellsFrom 0 names []).lookup x).isSome=true):((cellsFrom m names []).lookup x).isSome=true:=by
 have e:=PyProof.Rows.cellsFrom_names names 0 m [] [] rfl
 have key:∀(l l':List (Str×Addr)),l.map (·.1)=l'.map (·.1)->(l.lookup x).isSome=true->(l'.lookup x).isSome=true:=by
  intro l
  induction l with
  | nil=>intro l' _ z; exact bG z
  | cons a r ih =>
   intro l' e z
   induction l' using List.casesOn with
   | nil=>cases e
   | cons b r' =>
    simp only [List.map_cons,List.cons.injEq] at e
    simp only [List.lookup] at z ⊢
    refine aa (Eq.symm e.1) ?_
    induction q:x == a.1 with
    | true=>rfl
    | false=>rw [q] at z; exact ih r' e.2 z
 exact key _ _ e h
theorem jH {x:Str} {i m:Nat}:∀{l:List Str} {k:Nat},(l.zip ((List.range' k l.length).map (m + ·))).lookup x=some i->∃j,i=m + (k + j)/\l[j]? = some x
 | [],k,e=>by exact ap e
 | n::r,k,e=>by
  simp only [List.length_cons,List.range'_succ,List.map_cons,List.zip_cons_cons,List.lookup] at e
  induction q:x == n with
  | true=>rw [q] at e; cases e; exact ⟨0,by (first | lia | omega),by rw [beq_iff_eq.mp q]; rfl⟩
  | false =>
   rw [q] at e
   apply bc;intro ng
   obtain ⟨j,e1,e2⟩:=jH (l:=r) (k:=k + 1) e
   apply ng;clear ng
   exact ⟨j + 1,by (first | lia | omega),e2⟩
theorem Co.enter {h h₁:Heap} {ob:List AO} {pc:List (CE×Bool)} {as:List Addr} {ls:List (Str×AV)} {Ls:List (Str×Value)} {env:Env} (S:Co w ρ O G h ob pc as) (k:h.StaysIn h₁) (eL:h.objs.size<=env.locals) (eg:env.globals=mainGlobals) (eb:env.builtins=builtinsNs) (ek:env.scope.kind = .function)
  (hns:h₁.Ns env.locals (bindL env.kindOf Ls fun zw=>none)) (dl:All2 (Nm ρ as) ls Ls) (hnd:(ae env.scope.names).Nodup) (hc1:∀n∈ae env.scope.names,env.scope.names.lookup n=some .cell/\(env.cells.lookup n).isSome=true)
  (hcell:∀n c,env.cells.lookup n=some c->h₁.IsCell c (bindC env.kindOf Ls (fun zw=>none) n)) (hap:env.cells.Pairwise fun x y=>x.2≠y.2) (hab:∀n c,(n,c)∈env.cells->env.locals < c) :
  SR w ρ O G env h₁ ⟨ls.reverse.filter (fun x=>decide (env.scope.names.lookup x.1=some .local)),(ae env.scope.names).zip ((List.range (ae env.scope.names).length).map (ob.length + ·)),ob++(ae env.scope.names).map (fun n=>.cell (ls.reverse.lookup n)),pc⟩
   (as++(ae env.scope.names).map fun n=>(env.cells.lookup n).getD 0):=by
 generalize hcn:ae env.scope.names=cn at hnd hc1 ⊢
 have pp:Pre as (as++cn.map fun n=>(env.cells.lookup n).getD 0):=⟨_,rfl⟩
 have gfree:∀c,h.objs.size<=c->G c=none:=fun c hc=>by
  induction q:G c with
  | none=>rfl
  | some x=>exact absurd (Heap.lt_size (S.kp _ _ q)) (Nat.not_lt.mpr hc)
 have cs:∀(i:Nat) x a,(ob++cn.map (fun n=>AO.cell (ls.reverse.lookup n)))[i]? = some x->(as++cn.map fun n=>(env.cells.lookup n).getD 0)[i]? = some a->
   (ob[i]? = some x/\as[i]? = some a)\/∃j n,i=ob.length + j/\cn[j]? = some n/\x = .cell (ls.reverse.lookup n)/\env.cells.lookup n=some a:=fun i x a e e'=>by
  by_cases hi:i < ob.length
  ·rw [List.getElem?_append_left hi] at e
   rw [List.getElem?_append_left (by refine aa S.sz ?_; exact hi)] at e'
   exact .inl ⟨e,e'⟩
  ·rw [List.getElem?_append_right (by (first | lia | omega)),List.getElem?_map] at e
   rw [List.getElem?_append_right (by refine aa S.sz ?_; (first | lia | omega)),List.getElem?_map,S.sz] at e'
   induction q:cn[i - ob.length]? with
   | none=>rw [q] at e; exact ap e
   | some n =>
    rw [q] at e e'
    cases e; cases e'
    apply bc;intro ng
    obtain ⟨c,hc⟩:=Option.isSome_iff_exists.mp (hc1 n (List.mem_of_getElem? q)).2
    apply ng;clear ng
    exact .inr ⟨i - ob.length,n,by (first | lia | omega),q,rfl,by simp [hc]⟩
 refine ⟨S.bs,fun a o e=>k _ _ (S.kp a o e),S.og,gfree _ eL,eg,eb,ek,⟨_,hns,fun x v e=>?_⟩,fun x i e=>?_,by simp [S.sz],fun i o a e e'=>?_,fun i i' o o' a e1 e2 w1 w2 e3 e4=>?_,S.pc⟩
 ·obtain ⟨z1,z2⟩:=cY (p:=fun n=>decide (env.scope.names.lookup n=some .local)) e
  have z2:=of_decide_eq_true z2
  have z:=bn dl.rev (n:=x)
  rw [z1] at z
  apply bc;intro ng
  obtain ⟨V,y1,y2⟩:=z
  apply ng;clear ng
  exact ⟨V,by rw [lj (kd:=env.kindOf) z2,y1]; rfl,y2.pre pp⟩
 ·have e:(cn.zip ((List.range cn.length).map (ob.length + ·))).lookup x=some i:=e
  rw [List.range_eq_range'] at e
  apply bc;intro ng
  obtain ⟨j,z1,z2⟩:=jH (k:=0) e
  obtain ⟨c,hc⟩:=Option.isSome_iff_exists.mp (hc1 x (List.mem_of_getElem? z2)).2
  apply ng;clear ng
  refine ⟨c,?_,hc⟩
  refine aa (List.getElem?_append_right (by rw [S.sz]; (first | lia | omega))) (aa (List.getElem?_map) (aa S.sz (aa z1 (aa (show ob.length + (0 + j) - ob.length=j by (first | lia | omega)) (aa z2 ?_)))))
  simp [hc]
 ·rcases cs i o a e e' with ⟨f1,f2⟩ | ⟨j,n,rfl,f2,rfl,f4⟩
  ·obtain ⟨x,y⟩:=S.ob i o a f1 f2
   refine ⟨x.keep pp fun zw x ex=>k _ _ ex,fun ow=>⟨?_,y ow⟩⟩
   exact Nat.ne_of_lt (Nat.lt_of_lt_of_le (x.lt ow) eL)
  ·have ab:=hab n a (mem_of_lookup f4)
   apply bc;intro ng
   obtain ⟨co,z1,z2⟩:=hcell n a f4
   apply ng;clear ng
   refine ⟨⟨_,?_,co,z1,z2⟩,fun zw=>⟨Nat.ne_of_gt ab,gfree _ (Nat.le_trans eL (Nat.le_of_lt ab))⟩⟩
   have hk:=(hc1 n (List.mem_of_getElem? f2)).1
   have z:=bn dl.rev (n:=n)
   rw [lQ (kd:=env.kindOf) (by show ¬env.scope.names.lookup n=_; rw [hk]; decide)]
   induction q:ls.reverse.lookup n with
   | none=>trivial
   | some v =>
    rw [q] at z
    apply bc;intro ng
    obtain ⟨V,y1,y2⟩:=z
    apply ng;clear ng
    exact ⟨V,by refine aa y1 ?_; rfl,y2.pre pp⟩
 ·rcases cs i o a e1 e3 with ⟨f1,f2⟩ | ⟨j,n,rfl,f2,rfl,f4⟩
  ·rcases cs i' o' a e2 e4 with ⟨g1,g2⟩ | ⟨j',n',rfl,g2,rfl,g4⟩
   ·exact S.nd i i' o o' a f1 g1 w1 w2 f2 g2
   ·exact absurd ((S.ob i o a f1 f2).1.lt w1) (Nat.not_lt.mpr (Nat.le_trans eL (Nat.le_of_lt (hab n' a (mem_of_lookup g4)))))
  ·rcases cs i' o' a e2 e4 with ⟨g1,g2⟩ | ⟨j',n',rfl,g2,rfl,g4⟩
   ·exact absurd ((S.ob i' o' a g1 g2).1.lt w2) (Nat.not_lt.mpr (Nat.le_trans eL (Nat.le_of_lt (hab n a (mem_of_lookup f4)))))
   ·have:n=n':=name_of_addr hap (mem_of_lookup f4) (mem_of_lookup g4)
    apply bc;intro ng
    subst this
    apply ng;clear ng
    have:=(List.getElem?_inj (List.getElem?_eq_some_iff.mp f2).1 hnd).mp (f2.trans g2.symm)
    (first | lia | omega)
theorem SR.out {env:Env} {h:Heap} {s:St} {as:List Addr} (S:SR w ρ O G env h s as):Co w ρ O G h s.ob s.pc as :=
 ⟨S.bs,S.kp,S.og,S.sz,fun i o a e e'=>⟨(S.ob i o a e e').1,fun ow=>((S.ob i o a e e').2 ow).2⟩,S.nd,S.pc⟩
theorem Co.wd {h:Heap} {ob:List AO} {pc:List (CE×Bool)} {as:List Addr} (S:Co w ρ O G h ob pc as):Wd w h:=let ⟨hb,W,k⟩:=S.bs; W.keeps fun a o e=>S.kp a o (k a o e)
theorem Aa {R:Result->Shared->Prop} {a:Addr} {o:Obj} {fd:FuncData} {body:List Stmt} {vals:List Value} {binds:List (Str×Value)} {s:Shared}
  (hroom:A.depth < recursionLimit) (ho:s.heap.get? a=some o) (hdata:o.data = .func fd) (hlim:s.heap.NoLimit) (hcd:s.heap.CodeRec fd.code fd.qualname)
  (hbody:fd.body = .stmts body) (hbind:BindsTo s fd ⟨vals,[]⟩ binds) (hclo:fd.closure = [])
  (hkind:∀x∈binds,fd.scope.names.lookup x.1=some .local\/(fd.scope.names.lookup x.1=some .cell/\((cellsFrom (s.heap.objs.size + 1) fd.scope.names []).lookup x.1).isSome=true))
  (h:∀s₁,InCallC s (callEnvC fd s.heap.objs.size a).locals (bindL (callEnvC fd s.heap.objs.size a).kindOf binds fun zw=>none) (callEnvC fd s.heap.objs.size a).cells
    (bindC (callEnvC fd s.heap.objs.size a).kindOf binds fun zw=>none) s₁->
   wpAny (model pr w) (A.deeper (callEnvC fd s.heap.objs.size a)) (execs body (callEnvC fd s.heap.objs.size a)) (fun f s'=>R (.ok (.ret (match f with | .ret v=>v | _=>.none))) s')
    (fun e s'=>wpAny (model pr w) (A.deeper (callEnvC fd s.heap.objs.size a)) (leaving (callEnvC fd s.heap.objs.size a) e) (fun zw s''=>R (.error e) s'') (fun e' s''=>R (.error e') s'') s') s₁)
  (hco:fd.scope.isCoroutine=false) (hgen:fd.scope.isGenerator=false) (hk:fd.scope.kind = .function) :
  codeAny (model pr w) A (.call (.ref a) ⟨vals,[]⟩) R s:=by
 refine codeAny_call_function hroom ho hdata hco hgen hbody hcd (hbind _ _ _ _ ?_)
 refine aa hclo ?_
 refine wpAny_newFunctionEnv_cells hk hkind fun env he s' x=>?_
 subst he
 exact ⟨hlim.keeps x.toInCall.keep,codeAny_func (h s' x)⟩
theorem AX {P:Params} {h:Heap} (X:(K P).In h) {v:Value} {ds:List AV} (e:sj P v=some ds) {as:List Addr} {gs:Array GenState} {dr:Drawn} {n:Nat} {os:OsState} :
  ∃od:Option (Array Value),All2 (Dn ρ as) ds (od.getD #[]).toList/\∀(M:Model) (A:Around) (E:Value->Shared->Prop) (Q:Option (Array Value)->Shared->Prop),Q od ⟨h,gs,dr,n,os⟩->wpAny M A (seqItems? v) Q E ⟨h,gs,dr,n,os⟩:=by
 induction v using Value.casesOn <;> try exact ap e
 ·exact ⟨none,aG e▸.nil,fun M A E Q z=>wpAny_pure z⟩
 ·obtain ⟨vs,e1,e⟩:=gR e
  apply bc;intro ng
  obtain ⟨o,f1,e2⟩:=az e1
  obtain ⟨ws,m,e3,rfl⟩:=BF e2
  apply ng;clear ng
  exact ⟨some ws,e▸nC _,fun M A E Q z=>wpAny_seqItems (X _ _ f1) e3 z⟩
theorem mF {fi:FnI} {args:List AV} {ls:List (Str×AV)} (hb:aP fi args=some ls):pi (fi.params.args.map PySem.Arg.arg) args fi.dfl=some ls/\
  (ls.all fun x=>decide (fi.scope.names.lookup x.1=some .local) || (decide (fi.scope.names.lookup x.1=some .cell) && ((cellsFrom 0 fi.scope.names []).lookup x.1).isSome))=true/\
  ∀n∈ae fi.scope.names,fi.scope.names.lookup n=some .cell/\((cellsFrom 0 fi.scope.names []).lookup n).isSome=true:=by
 unfold aP at hb
 induction e:pi (fi.params.args.map (·.arg)) args fi.dfl with
 | none=>rw [e] at hb; exact ap hb
 | some ls' =>
  rw [e] at hb
  obtain ⟨hc,hb⟩:=cS hb
  have hb:=aG hb
  subst hb
  refine ⟨rfl,ag hc,fun n m=>?_⟩
  have z:=List.all_eq_true.mp (au hc) n m
  exact ⟨of_decide_eq_true (ag z),au z⟩
theorem sg {sc:Scope} (m:Nat) {as:List Addr} {ls:List (Str×AV)} {Bs:List (Str×Value)} (x:All2 (Nm ρ as) ls Bs) (h:(ls.all fun x=>decide (sc.names.lookup x.1=some .local) || (decide (sc.names.lookup x.1=some .cell) && ((cellsFrom 0 sc.names []).lookup x.1).isSome))=true) :
  ∀x∈Bs,sc.names.lookup x.1=some .local\/(sc.names.lookup x.1=some .cell/\((cellsFrom m sc.names []).lookup x.1).isSome=true):=by
 induction x with
 | nil=>intro x m; cases m
 | cons e _ ih =>
  refine List.forall_mem_cons.mpr ⟨?_,ih (au h)⟩
  refine aa (Eq.symm e.1) ?_
  rcases Bool.or_eq_true_iff.mp (ag h) with z | z
  ·exact .inl (of_decide_eq_true z)
  ·exact .inr ⟨of_decide_eq_true (ag z),iz _ (au z)⟩
theorem zj {a:Addr} {fi:FnI} {args:List AV} {ls:List (Str×AV)} {ob:List AO} {pc:List (CE×Bool)} {h:Heap} {n:Nat} {as:List Addr} {Us:List Value} {RR:Result->Shared->Prop} (hd:A.depth < recursionLimit) (hR:∀env,Room (A.deeper env) d)
  (hfi:dN w.params a=some fi) (hb:aP fi args=some ls) (S:Co w ρ O G h ob pc as) (da:All2 (Dn ρ as) args Us)
  (q:∀A' env h' n' as',Room A' d->env.scope=fi.scope->Pre as as'->
   SR w ρ O G env h' ⟨ls.reverse.filter (fun x=>decide (fi.scope.names.lookup x.1=some .local)),(ae fi.scope.names).zip ((List.range (ae fi.scope.names).length).map (ob.length + ·)),ob++(ae fi.scope.names).map (fun n=>.cell (ls.reverse.lookup n)),pc⟩ as'->
   ∀E',wpAny (model pr w) A' (execs fi.body env) (fun fl s'=>RR (.ok (.ret (match fl with | .ret v=>v | _=>.none))) s') E' ⟨h',gs,dr,n',os⟩) :
  codeAny (model pr w) A (.call (.ref a) ⟨Us,[]⟩) RR ⟨h,gs,dr,n,os⟩:=by
 apply bc;intro ng
 obtain ⟨o,fd,F⟩:=yH hfi
 have X:=S.wd.k
 obtain ⟨p,loose,mean,mg,mb,T⟩:=S.wd.t
 obtain ⟨hb2,hl1,hl2⟩:=mF hb
 obtain ⟨od,z1,z3⟩:=AX (ρ:=ρ) (as:=as) (gs:=gs) (dr:=dr) (n:=n) (os:=os) X F.dfl
 obtain ⟨b1,b2,b3,b4⟩:=qu da z1 hb2
 apply ng;clear ng
 have hkd:=F.hs▸sg (h.objs.size + 1) b4 hl1
 refine Aa (fd:=fd) (s:=⟨h,gs,dr,n,os⟩) hd (X _ _ F.ho) F.hd T.nolimit (codeRec_of X F.hcode) F.hb ?_ F.hc hkd (fun s₁ IC=>?_) F.co F.gen F.kind
 ·intro M A E Q z
  apply bc;intro ng
  obtain ⟨pa,kd,df,ep⟩:=F.par
  apply ng;clear ng
  rw [ep] at b1 b2 b3 z
  exact rM (F.hp.trans ep) (z3 M A E) rfl b1 b2 b3 z
 ·obtain ⟨h₁,tk,rfl⟩:=IC.toInCall.same
  have esc:(callEnvC fd h.objs.size a).scope=fi.scope:=F.hs
  have SE:=S.enter (env:=callEnvC fd h.objs.size a) IC.toInCall.keep IC.toInCall.fresh F.hg F.hbi F.kind IC.toInCall.ns b4 (by refine aa esc ?_; exact F.nd)
   (fun n m=>by
    rw [esc] at m
    apply bc;intro ng
    obtain ⟨z1,z2⟩:=hl2 n m
    apply ng;clear ng
    refine ⟨by refine aa esc ?_; exact z1,?_⟩
    show ((cellsFrom (h.objs.size + 1) fd.scope.names []).lookup n).isSome=true
    refine aa F.hs ?_; exact iz _ z2) IC.cell IC.apart IC.above
  rw [esc] at SE
  exact q _ (callEnvC fd h.objs.size a) _ _ _ (hR _) esc ⟨_,rfl⟩ SE _
theorem oo (R:Snd w ρ O d r) {a:Addr} {args:List AV} {s:St} {k:AV->St->Tr} {h:Heap} {n:Nat} {as:List Addr} {Us:List Value} {RR:Result->Shared->Prop} (hd:A.depth < recursionLimit) (hR:∀env,Room (A.deeper env) d)
  (y:(yk w.params r a args s k).ok ρ post) (S:Co w ρ O G h s.ob s.pc as) (da:All2 (Dn ρ as) args Us)
  (q:∀v V s' h' as' n',s'.ls=s.ls->s'.cl=s.cl->(k v s').ok ρ post->Co w ρ O G h' s'.ob s'.pc as'->Pre as as'->Dn ρ as' v V->RR (.ok (.ret V)) ⟨h',gs,dr,n',os⟩):codeAny (model pr w) A (.call (.ref a) ⟨Us,[]⟩) RR ⟨h,gs,dr,n,os⟩:=by
 unfold yk at y
 induction hfi:dN w.params a with
 | none=>rw [hfi] at y; exact y.elim
 | some fi =>
  rw [hfi] at y
  induction hb:aP fi args with
  | none=>simp only [hb] at y; exact y.elim
  | some ls =>
   simp only [hb] at y
   refine zj hd hR hfi hb S da fun A' env h1 n1 as1 hR1 esc p1 S1 E'=>?_
   rw [<- esc] at y
   refine cq R hR1 y (by refine aa esc ?_; exact S1) fun fl F s' h' as' n' y S' pp df=>?_
   have pp:=p1.trans pp
   induction fl with
    | nx=>have df:F = .next:=df; subst df; exact q .none .none { s' with ls:=s.ls,cl:=s.cl } _ _ _ rfl rfl y S'.out pp rfl
    | rt v=>obtain ⟨V,rfl,dv⟩:=df; exact q _ _ { s' with ls:=s.ls,cl:=s.cl } _ _ _ rfl rfl y S'.out pp dv
    | bk=>exact y.elim
    | ct=>exact y.elim
end
end
section
open PySem PySem.W PyProof.Rows PySem.Calls Builtin Builtin.ObjectAttr PySem.Spec
section
variable {w:World} {ρ:Rho} {O:Opq} {d:Nat} {r:Rc} {post:Fl->St->Prop} {A:Around} {gs:Array GenState} {dr:Drawn} {os:OsState} {G:Gr} {Er:Value->Shared->Prop}
theorem Co.stay {h h':Heap} {ob:List AO} {pc:List (CE×Bool)} {as:List Addr} (S:Co w ρ O G h ob pc as) (k:h.StaysIn h'):Co w ρ O G h' ob pc as :=
 ⟨S.bs,fun a o e=>k _ _ (S.kp a o e),S.og,S.sz,fun i o a e e'=>⟨((S.ob i o a e e').1).keep .refl (fun zw x ex=>k _ _ ex),(S.ob i o a e e').2⟩,S.nd,S.pc⟩
theorem Co.at {h:Heap} {s:St} {pc:List (CE×Bool)} {as:List Addr} (S:Co w ρ O G h s.ob pc as) {i:Nat} {o:AO} (e:s.at i=some o):∃a,as[i]? = some a/\aC ρ O as h a o:=by
 apply bc;intro ng
 obtain ⟨o',q,e⟩:=gR e
 apply ng;clear ng
 have hl:i < as.length:=by refine aa S.sz ?_; exact (List.getElem?_eq_some_iff.mp q).1
 exact ⟨as[i],List.getElem?_eq_getElem hl,e▸(S.ob i o' _ q (List.getElem?_eq_getElem hl)).1.view S.kp S.og⟩
theorem Co.lstAt {h:Heap} {s:St} {pc:List (CE×Bool)} {as:List Addr} (S:Co w ρ O G h s.ob pc as) {v:AV} {V:Value} {vs:List AV} (d:Dn ρ as v V) (e:lstAt s v=some vs):∃a Vs,V = .ref a/\All2 (Dn ρ as) vs Vs/\At h.get? a (.lst Vs):=by
 apply bc;intro ng
 obtain ⟨o,e,e2⟩:=az e
 obtain ⟨j,ej,e⟩:=az e
 rw [bM ej] at d
 obtain ⟨a,ea,rfl⟩:=d
 obtain ⟨a',a1,a2⟩:=S.at e
 rw [ea] at a1
 rw [<- aG a1,cy e2] at a2
 obtain ⟨Vs,b⟩:=a2
 apply ng;clear ng
 exact ⟨a,Vs,rfl,b⟩
theorem Co.tupAt {h:Heap} {s:St} {pc:List (CE×Bool)} {as:List Addr} (S:Co w ρ O G h s.ob pc as) {v:AV} {V:Value} {vs:List AV} (d:Dn ρ as v V) (e:tupAt s v=some vs):∃a Vs,V = .ref a/\All2 (Dn ρ as) vs Vs/\At h.get? a (.tup Vs):=by
 apply bc;intro ng
 obtain ⟨o,e,e2⟩:=az e
 obtain ⟨j,ej,e⟩:=az e
 rw [bM ej] at d
 obtain ⟨a,ea,rfl⟩:=d
 obtain ⟨a',a1,a2⟩:=S.at e
 rw [ea] at a1
 rw [<- aG a1,cX e2] at a2
 obtain ⟨Vs,b⟩:=a2
 apply ng;clear ng
 exact ⟨a,Vs,rfl,b⟩
theorem l7 {t:Tr}:∀{cs:List CE},(sQ cs t).ok ρ post->(∀c∈cs,c.den ρ)/\t.ok ρ post
 | [],y=>⟨fun zw m=>(nomatch m),y⟩
 | c::cs,y=>by
  obtain ⟨y1,y2⟩:=iq y
  obtain ⟨y3,y4⟩:=l7 y2
  exact ⟨fun c m=>by cases m with | head=>exact y1 | tail _ m=>exact y3 c m,y4⟩
def ay (w:World) (ρ:Rho) (O:Opq) (hk:Hk) (d:Nat):Prop:=∀{a args ob cs v ob'},hk a args ob=some (cs,v,ob')->(∀c∈cs,c.den ρ)->
 ∀{A:Around} {gs dr os} {G:Gr} {h:Heap} {pc:List (CE×Bool)} {n:Nat} {as:List Addr} {Us:List Value} {Q:Value->Shared->Prop} {Er:Value->Shared->Prop},Room A d->Co w ρ O G h ob pc as->All2 (Dn ρ as) args Us->
  (∀V h' as' n',Co w ρ O G h' ob' pc as'->Pre as as'->Dn ρ as' v V->Q V ⟨h',gs,dr,n',os⟩)->wpAny (model pr w) A (call (.ref a) Us) Q Er ⟨h,gs,dr,n,os⟩
theorem ay.le {hk:Hk} {m:Nat} (H:ay w ρ O hk d) (l:d<=m):ay w ρ O hk m:=fun e c zw zw zw zw zw zw zw zw zw zw zw zw R=>H e c (R.le l)
theorem gM {as:List Addr} {vs:List AV} {es:List IE} {Vs:List Value} (e:gC vs=some es) (x:All2 (Dn ρ as) vs Vs):IntsAre Vs (es.map (IE.den ρ)):=by
 induction x generalizing es with
 | nil=>exact aG e▸.nil
 | cons d _ ih =>
  obtain ⟨ie,e1,e⟩:=az e
  obtain ⟨es',e2,e⟩:=gR e
  rw [cO e1] at d
  obtain ⟨t,rfl⟩:=d
  exact e▸.cons _ _ (ih e2)
theorem yx (es:List IE):(wG es).den ρ=(es.map (IE.den ρ)).sum:=by
 induction es with
 | nil=>rfl
 | cons e r ih =>
  induction r using List.casesOn with
  | nil=>exact (Int.add_zero _).symm
  | cons e' r=>exact congrArg (e.den ρ + ·) ih
theorem yr (e:IE) (es:List IE):(kR e es).den ρ∈(e::es).map (IE.den ρ)/\∀a∈(e::es).map (IE.den ρ),a<=(kR e es).den ρ:=by
 induction es generalizing e with
 | nil=>exact ⟨.head _,fun a m=>by cases m with | head=>exact Int.le_refl _ | tail _ m=>cases m⟩
 | cons e' r ih =>
  obtain ⟨h1,h2⟩:=ih e'
  show max (e.den ρ) ((kR e' r).den ρ)∈_/\∀a∈_,a<=max (e.den ρ) ((kR e' r).den ρ)
  refine ⟨?_,fun a m=>?_⟩
  ·by_cases hh:e.den ρ<=(kR e' r).den ρ
   ·refine aa (Int.max_eq_right hh) ?_; exact .tail _ h1
   ·refine aa (Int.max_eq_left (Int.le_of_lt (Int.not_le.mp hh))) ?_; exact .head _
  ·rcases List.mem_cons.mp m with rfl | m
   ·exact Int.le_max_left _ _
   ·exact Int.le_trans (h2 a m) (Int.le_max_right _ _)
theorem ay.no:ay w ρ O aA d:=fun e=>by exact ap e
theorem r7 (R:Snd w ρ O d r) {a:Addr} {args:List AV} {s:St} {k:AV->St->Tr} {h:Heap} {n:Nat} {as:List Addr} {Us:List Value} {Q:Value->Shared->Prop} (hR:Room A (d + 1))
  (y:(zG w.params r a args s k).ok ρ post) (S:Co w ρ O G h s.ob s.pc as) (da:All2 (Dn ρ as) args Us)
  (q:∀v V s' h' as' n',s'.ls=s.ls->s'.cl=s.cl->(k v s').ok ρ post->Co w ρ O G h' s'.ob s'.pc as'->Pre as as'->Dn ρ as' v V->Q V ⟨h',gs,dr,n',os⟩):wpAny (model pr w) A (call (.ref a) Us) Q Er ⟨h,gs,dr,n,os⟩:=by
 apply bc;intro ng
 obtain ⟨hm,y⟩:=aj y
 obtain ⟨fI,hi,y⟩:=af y
 obtain ⟨ht,y⟩:=aj y
 apply ng;clear ng
 have hi:=ou hi
 have X:=S.wd.k
 have dp:=hR.dp
 have un:=hR.un
 have w1:(Code.builtin "type.__call__" ⟨.ref a::Us,[]⟩).weight=1:=by rfl
 have w2:(Code.builtin "type.__call__" ⟨.ref a::Us,[]⟩).cUnits=1:=by rfl
 have S1:=S.push emptyDict (ao:=.ns []) ⟨[],.nil,_,Heap.get?_push_size _ rfl,#[],0,rfl,fun zw he=>by simp at he,fun zw=>rfl,Nat.le_refl _⟩
 have S2:=S1.push (instObj a h.objs.size) (ao:=.inst a s.ob.length) ⟨h.objs.size,by refine aa (Eq.symm S.sz) ?_; simp,_,Heap.get?_push_size _ rfl,rfl⟩
 have sz:(h.push emptyDict).objs.size=h.objs.size + 1:=Heap.size_push ..
 rw [sz,List.append_assoc] at S2
 refine wpAny_call (make_core (makes_of X hm) (looks_findIn X hi) (fun self=>bind_fn X self (aD ht)) (.inl rfl) ?_)
 have pp:Pre as (as++[h.objs.size]++[h.objs.size + 1]):=⟨_,List.append_assoc ..⟩
 have gl:(as++[h.objs.size]++[h.objs.size + 1])[s.ob.length + 1]? = some (h.objs.size + 1):=by
  rw [<- S.sz,List.append_assoc,List.getElem?_append_right (by (first | lia | omega))]; simp
 refine oo R (A:=A.under _) (RR:=InitBack _ _) (by show A.depth + (Code.builtin "type.__call__" ⟨.ref a::Us,[]⟩).weight < _; refine aa w1 ?_; (first | lia | omega))
  (fun env=>⟨hR.hd,by show A.depth + (Code.builtin "type.__call__" ⟨.ref a::Us,[]⟩).weight + 1 + 3 * d + 3 < _; refine aa w1 ?_; (first | lia | omega),by show A.units + (Code.builtin "type.__call__" ⟨.ref a::Us,[]⟩).cUnits + 3 + 20 * d + 20 < _; refine aa w2 ?_; (first | lia | omega)⟩)
  y S2 (.cons ⟨_,gl,rfl⟩ (da.pre pp)) fun v V s' h' as' n' e1 e2 y S' p' dv=>?_
 apply bc;intro ng
 cases v <;> try exact y.elim
 have dv:V = .none:=dv
 subst dv
 apply ng;clear ng
 exact ⟨rfl,q _ _ _ _ _ _ e1 e2 y S' (pp.trans p') ⟨_,p'.get gl,rfl⟩⟩
theorem sA {α:Type} {f:AV->Option α} {x:α} {as:List Addr} {args:List AV} {Us:List Value} (e:(aZ args).bind f=some x) (da:All2 (Dn ρ as) args Us):∃a U,Us = [U]/\f a=some x/\Dn ρ as a U:=by
 apply bc;intro ng
 obtain ⟨a,e1,e2⟩:=az e
 apply ng;clear ng
 rw [ba e1] at da
 exact let ⟨U,e,d⟩:=da.one; ⟨a,U,e,e2,d⟩
theorem Dp {p:AV×AV} {as:List Addr} {args:List AV} {Us:List Value} (e:eA args=some p) (da:All2 (Dn ρ as) args Us):∃U V,Us = [U,V]/\Dn ρ as p.1 U/\Dn ρ as p.2 V:=by
 rw [ch e] at da
 exact da.two
theorem As {h:Heap} {a:Addr} {Vs:List Value} {es:List IE} {n:Nat} {Q:Value->Shared->Prop} (hd:A.handled=none) (hi:IntsAre Vs (es.map (IE.den ρ))) (l:h.IsList a Vs.toArray)
  (q:∀h' n' t,h.StaysIn h'->Q (.int ((wG es).den ρ) t) ⟨h',gs,dr,n',os⟩):wpAny (model pr w) A (call (.builtin "sum") [.ref a]) Q Er ⟨h,gs,dr,n,os⟩:=by
 obtain ⟨xs,ex⟩:=hi.allInts.items
 have hns:es.map (IE.den ρ)=xs.toList.map (·.1):=by rw [<- hi.numsOf,<- nums_intItems,<- ex]
 rw [ex] at l
 refine sum_intListG (s:=⟨h,gs,dr,n,os⟩) hd l fun h' tk t' kk=>?_
 rw [preSum_eq,List.take_of_length_le (by simp),<- hns,<- yx]
 exact q _ _ _ kk
theorem Bf {h:Heap} {a:Addr} {Vs:List Value} {e0:IE} {es:List IE} {n:Nat} {Q:Value->Shared->Prop} (hd:A.handled=none) (hi:IntsAre Vs ((e0::es).map (IE.den ρ))) (l:h.IsList a Vs.toArray)
  (q:∀h' n' t,h.StaysIn h'->Q (.int ((kR e0 es).den ρ) t) ⟨h',gs,dr,n',os⟩):wpAny (model pr w) A (call (.builtin "max") [.ref a]) Q Er ⟨h,gs,dr,n,os⟩:=by
 obtain ⟨xs,ex⟩:=hi.allInts.items
 have hns:(e0::es).map (IE.den ρ)=xs.toList.map (·.1):=by rw [<- hi.numsOf,<- nums_intItems,<- ex]
 have hsz:0 < xs.size:=by
  have h3:=congrArg List.length hns; simp at h3; (first | decide | omega)
 rw [ex] at l
 refine max_intList (s:=⟨h,gs,dr,n,os⟩) hd l hsz fun v h' tk hv kk=>?_
 obtain ⟨t,rfl⟩:=intItems_at hv
 obtain ⟨h1,h2⟩:=argBest_gt (numAt xs) (xs.size - 1)
 obtain ⟨m1,m2⟩:=yr (ρ:=ρ) e0 es
 rw [hns] at m1 m2
 refine (congrArg (fun z=>Q (.int z t) _) (Int.le_antisymm ?_ (m2 _ ?_))).mp (q _ _ t kk)
 ·obtain ⟨j,hj,ej⟩:=mem_getD m1
  rw [List.length_map,Array.length_toList] at hj
  rw [<- ej,<- numAt_eq]; exact h2 j (by (first | decide | omega))
 ·rw [numAt_eq]; exact getD_mem (by rw [List.length_map,Array.length_toList]; (first | decide | omega))
section
variable {args:List AV} {s:St} {k:AV->St->Tr} {h:Heap} {n:Nat} {as:List Addr} {Us:List Value} {Q:Value->Shared->Prop}
theorem yB {nm:String} (hR:Room A (d + 1)) (y:(Dm nm args s k).ok ρ post) (S:Co w ρ O G h s.ob s.pc as) (da:All2 (Dn ρ as) args Us)
  (q:∀v V h' n',(k v s).ok ρ post->Co w ρ O G h' s.ob s.pc as->Dn ρ as v V->Q V ⟨h',gs,dr,n',os⟩):wpAny (model pr w) A (call (.builtin nm) Us) Q Er ⟨h,gs,dr,n,os⟩:=by
 apply bc;intro ng
 rcases cF y with ⟨hn,y⟩ | ⟨-,y⟩ <;> refine ng ?_ <;> clear ng
 ·refine aa (aD hn) ?_
  apply bc;intro ng
  obtain ⟨p,e,y⟩:=af y
  obtain ⟨z,ez,y⟩:=af y
  obtain ⟨e1,e2⟩:=ah ez
  obtain ⟨U,V,rfl,d1,d2⟩:=Dp e da
  rw [cO e1] at d1; rw [m5 e2] at d2
  obtain ⟨t,rfl⟩:=d1
  have d2:V=z.2:=d2
  subst d2
  apply ng;clear ng
  apply bc;intro ng
  rcases cF y with ⟨h1,y⟩ | ⟨-,y⟩ <;> refine ng ?_ <;> clear ng
  ·refine aa (aD h1) ?_; exact AR (q _ _ _ _ y S rfl)
  ·obtain ⟨h1,y⟩:=aj y
   refine aa (aD h1) ?_; exact zS fun n'=>q _ _ _ _ y S rfl
 apply bc;intro ng
 rcases cF y with ⟨hn,y⟩ | ⟨-,y⟩ <;> refine ng ?_ <;> clear ng
 ·refine aa (aD hn) ?_
  apply bc;intro ng
  obtain ⟨e,ee,y⟩:=af y
  obtain ⟨a,U,rfl,e1,d1⟩:=sA ee da
  rw [cO e1] at d1
  obtain ⟨t,rfl⟩:=d1
  apply ng;clear ng
  exact EZ fun t n'=>q _ _ _ _ y S ⟨t,by exact aa sE rfl⟩
 apply bc;intro ng
 rcases cF y with ⟨hn,y⟩ | ⟨-,y⟩ <;> refine ng ?_ <;> clear ng
 ·refine aa (aD hn) ?_
  apply bc;intro ng
  rcases cG y with ⟨p,e,y⟩ | ⟨-,y⟩ <;> refine ng ?_ <;> clear ng
  ·obtain ⟨z,ez,y⟩:=af y
   apply bc;intro ng
   obtain ⟨U,V,rfl,d1,d2⟩:=Dp e da
   obtain ⟨t,u,rfl,rfl⟩:=bF ez d1 d2
   apply ng;clear ng
   refine max_two_ints (s:=⟨h,gs,dr,n,os⟩) hR.hd fun h' tk kk=>?_
   split
   ·rename_i hb
    exact q _ _ _ _ y (S.stay kk) ⟨u,congrArg (fun z=>Value.int z u) (Int.max_eq_right (by (first | decide | lia | omega))).symm⟩
   ·rename_i hb
    exact q _ _ _ _ y (S.stay kk) ⟨t,congrArg (fun z=>Value.int z t) (Int.max_eq_left (by (first | decide | lia | omega))).symm⟩
  ·obtain ⟨es,ee,y⟩:=af y
   apply bc;intro ng
   obtain ⟨vs,e1,e2⟩:=az ee
   obtain ⟨v,U,rfl,e3,d1⟩:=sA e1 da
   obtain ⟨a,Vs,rfl,a2,a3⟩:=S.lstAt d1 e3
   apply ng;clear ng
   induction es using List.casesOn with
   | nil=>exact y.elim
   | cons e0 es=>exact Bf hR.hd (gM e2 a2) a3 fun h' n' t kk=>q _ _ _ _ y (S.stay kk) ⟨t,rfl⟩
 apply bc;intro ng
 rcases cF y with ⟨hn,y⟩ | ⟨-,y⟩ <;> refine ng ?_ <;> clear ng
 ·refine aa (aD hn) ?_
  apply bc;intro ng
  obtain ⟨es,ee,y⟩:=af y
  obtain ⟨vs,e1,e2⟩:=az ee
  obtain ⟨v,U,rfl,e3,d1⟩:=sA e1 da
  obtain ⟨a,Vs,rfl,a2,a3⟩:=S.lstAt d1 e3
  apply ng;clear ng
  exact As hR.hd (gM e2 a2) a3 fun h' n' t kk=>q _ _ _ _ y (S.stay kk) ⟨t,rfl⟩
 apply bc;intro ng
 obtain ⟨hn,y⟩:=aj y
 apply ng;clear ng
 refine aa (aD hn) ?_
 apply bc;intro ng
 obtain ⟨v,e1,y⟩:=af y
 obtain ⟨v',U,rfl,e3,d1⟩:=sA (f:=some) (show (aZ args).bind some=some v by refine aa e1 ?_; rfl) da
 apply ng;clear ng
 rw [aG e3] at d1
 apply bc;intro ng
 rcases cG y with ⟨vs,e,y⟩ | ⟨-,y⟩ <;> refine ng ?_ <;> clear ng
 ·obtain ⟨a,Vs,rfl,a2,a3⟩:=S.lstAt d1 e
  apply bc;intro ng
  obtain ⟨hl,y⟩:=aj y
  apply ng;clear ng
  have hl:=of_decide_eq_true hl
  have ll:=a2.len
  have l:h.IsList a Vs.toArray:=a3
  refine call_len_list (s:=⟨h,gs,dr,n,os⟩) l (by simp; (first | decide | lia | omega)) ?_
  exact q _ _ _ _ y S ⟨_,congrArg (fun n:Nat=>Value.int n _) (by refine aa ll ?_; simp)⟩
 ·obtain ⟨vs,e,y⟩:=af y
  apply bc;intro ng
  obtain ⟨a,Vs,rfl,a2,a3⟩:=S.tupAt d1 e
  obtain ⟨hl,y⟩:=aj y
  apply ng;clear ng
  have hl:=of_decide_eq_true hl
  have ll:=a2.len
  have l:IsTup h a Vs.toArray:=a3
  refine PyProof.Rows.len_tuple (s:=⟨h,gs,dr,n,os⟩) l (by simp; (first | decide | lia | omega)) ?_
  exact q _ _ _ _ y S ⟨_,congrArg (fun n:Nat=>Value.int n _) (by refine aa ll ?_; simp)⟩
theorem dm {hk:Hk} (H:ay w ρ O hk (d + 1)) (R:Snd w ρ O d r) {fv:AV} {V:Value} (hR:Room A (d + 1))
  (y:(jq w.params hk r fv args s k).ok ρ post) (S:Co w ρ O G h s.ob s.pc as) (df:Dn ρ as fv V) (da:All2 (Dn ρ as) args Us)
  (q:∀v V s' h' as' n',s'.ls=s.ls->s'.cl=s.cl->(k v s').ok ρ post->Co w ρ O G h' s'.ob s'.pc as'->Pre as as'->Dn ρ as' v V->Q V ⟨h',gs,dr,n',os⟩):wpAny (model pr w) A (call V Us) Q Er ⟨h,gs,dr,n,os⟩:=by
 obtain ⟨v,ev,y⟩:=af y
 rw [m5 ev] at df
 have df:V=v:=df
 subst df
 induction V using Value.casesOn <;> try exact y.elim
 ·obtain ⟨hn,y⟩:=aj y
  refine aa (aD hn) ?_
  apply bc;intro ng
  obtain ⟨vs,e,y⟩:=af y
  obtain ⟨a,U,rfl,e1,d1⟩:=sA e da
  obtain ⟨hl,y⟩:=aj y
  have hl:=of_decide_eq_true hl
  obtain ⟨a',Vs,rfl,a2,a3⟩:=S.lstAt d1 e1
  apply ng;clear ng
  have l:h.IsList a' Vs.toArray:=a3
  have ll:=a2.len
  refine call_tuple_list (s:=⟨h,gs,dr,n,os⟩) l (fun h' kk=>?_) (by simp; refine aa sizeLine_eq ?_; (first | lia | omega))
  have S':=(S.stay kk).push { cls:=.type "tuple",data:=.seq Vs.toArray } (ao:=.tup vs) ⟨Vs,a2.mono fun zw zw z=>z.pre ⟨_,rfl⟩,_,Heap.get?_push_size _ rfl,rfl,_,rfl⟩
  refine q (.loc s.ob.length) _ { s with ob:=s.ob++[.tup vs] } _ _ _ rfl rfl y S' ⟨_,rfl⟩ ⟨h'.objs.size,?_,rfl⟩
  refine aa (Eq.symm S.sz) ?_; simp
 ·exact yB hR y S da fun v V h' n' y S' dv=>q _ _ _ _ _ _ rfl rfl y S' .refl dv
 ·rcases cG y with ⟨z,e,y⟩ | ⟨-,y⟩
  ·obtain ⟨y1,y2⟩:=l7 y
   exact H e y1 hR S da fun V h' as' n' S' p dv=>q _ _ { s with ob:=z.2.2 } _ _ _ rfl rfl y2 S' p dv
  ·rcases cF y with ⟨-,y⟩ | ⟨-,y⟩
   ·exact r7 R hR y S da q
   ·exact wpAny_call (oo R (by have:=hR.dp; (first | lia | omega)) (fun env=>hR.deeper env) y S da q)
end
end
theorem fM {w:World} {ρ:Rho} {O:Opq} {hk:Hk} {r0:Nat} (H:ay w ρ O hk r0):∀n,Snd w ρ O (n + r0) (run w.params hk n)
 | 0=>rW
 | n + 1=>by
  have R:=fM H n
  have l:n + r0<=n + 1 + r0:=by (first | lia | omega)
  exact ⟨fun hR y S q=>iZ R (hR.le l) y S q,fun hR y S hw q=>iD R (hR.le l) y S hw q,fun hR y S q=>dq R (hR.le l) y S q,
   fun hR y S df da q=>dm (d:=n + r0) (H.le (by (first | lia | omega))) R (by rw [show n + r0 + 1=n + 1 + r0 by (first | lia | omega)]; exact hR) y S df da q⟩
end
noncomputable abbrev S' (x:String):Str:=Str.ofString x
noncomputable def bj:List AO:=[.fz (.ns [(S' "skew_char",.any),(S' "hyphen_char",.any),(S' "edge_start",.any),(S' "boundary",.any),(S' "kerns",.any),(S' "program",.any),(S' "chars",.loc 2),(S' "params",.any),(S' "check",.any),(S' "design",.any),(S' "size",.any),(S' "name",.any),(S' "number",.int (.c 1))]),.fz (.inst 822 0),.opq 0]
inductive Ob1
 | ie (a b:IE) | nat (i j:Nat) | val (v u:Value) | ty (t u:Ty) | il (b:Nat) (es:List IE) (b':Nat) (es':List IE) | ii (es:List IE) (b':Nat) (es':List IE) | rf (b b':Nat)
def Ob1.den (ρ ρ':Rho):Ob1->Prop
 | .ie a b=>a.den ρ=b.den ρ'
 | .nat i j=>i=j
 | .val v u=>v=u
 | .ty t u=>t=u
 | .il b es b' es'=>ρ.l b++es.map (IE.den ρ)=ρ'.l b'++es'.map (IE.den ρ')
 | .ii es b' es'=>es.map (IE.den ρ)=ρ'.l b'++es'.map (IE.den ρ')
 | .rf b b'=>ρ.l b=ρ'.l b'
def bD (ρ ρ':Rho):List Ob1->Prop
 | []=>True
 | [o]=>o.den ρ ρ'
 | o::r=>o.den ρ ρ'/\bD ρ ρ' r
theorem bD.cons {ρ ρ':Rho} {o:Ob1} {r:List Ob1}:bD ρ ρ' (o::r)↔o.den ρ ρ'/\bD ρ ρ' r:=by
 induction r using List.casesOn with
 | nil=>simp [bD]
 | cons p r=>rfl
theorem bD.app {ρ ρ':Rho}:∀{l r:List Ob1},bD ρ ρ' (l++r)↔bD ρ ρ' l/\bD ρ ρ' r
 | [],r=>by simp [bD]
 | o::l,r=>by rw [List.cons_append,bD.cons,bD.cons,bD.app,and_assoc]
noncomputable def jW (c:Bool):Option (List Ob1):=match c with | true=>some [] | false=>none
theorem dJ {c:Bool} {l:List Ob1} (e:jW c=some l):c=true:=by induction c with | true=>rfl | false=>exact ap e
theorem nA {a b:Option Nat} (e:a=b):jW (a == b)=some []:=by rw [e,beq_self_eq_true]; rfl
noncomputable def uQ (mp:Nat->Option Nat) (v u:AV):Option (List Ob1):=match u with
 | .any=>some []
 | .none=>jW v.n?
 | .bool b=>v.b?.bind fun a=>jW (a == b)
 | .int b=>v.i?.map fun a=>[.ie a b]
 | .str y=>v.s?.bind fun x=>jW (x == y)
 | .loc j=>v.l?.bind fun i=>jW (mp i == some j)
 | .glb u=>v.g?.map fun v=>[.val v u]
noncomputable def nT {α:Type} (f:α->α->Option (List Ob1)):List α->List α->Option (List Ob1)
 | [],us=>(match us with | []=>some [] | _::_=>none)
 | v::vs,us=>(match us with | []=>none | u::us=>(f v u).bind fun l=>(nT f vs us).map (l++·))
noncomputable def Gv {κ:Type} [BEq κ] (mp:Nat->Option Nat) (p q:κ×AV):Option (List Ob1):=match p.1 == q.1 with | true=>uQ mp p.2 q.2 | false=>none
noncomputable def Na (mp:Nat->Option Nat) (u:Option AV) (v:Option AV):Option (List Ob1):=match u with | none=>some [] | some u=>v.bind fun v=>uQ mp v u
noncomputable def AO.sq? (o:AO):Option (List AV):=match o.pl? with | some vs=>some vs | none=>o.lst?
noncomputable def fG (mp:Nat->Option Nat) (o u:AO):Option (List Ob1):=match u with
 | .lst us=>o.sq?.bind fun vs=>nT (uQ mp) vs us
 | .tup us=>o.tup?.bind fun vs=>nT (uQ mp) vs us
 | .ns us=>o.ns?.bind fun vs=>nT (Gv mp) vs us
 | .inst D j=>o.inst?.bind fun q=>jW (q.1 == D && mp q.2 == some j)
 | .cell u=>o.cell?.bind (Na mp u)
 | .il b' es'=>(match o.il? with | some q=>some [.il q.1 q.2 b' es'] | none=>(o.pl?.bind gC).map fun es=>[.ii es b' es'])
 | .raw u=>o.raw?.map fun t=>[.ty t u]
 | .pl us=>o.pl?.bind fun vs=>nT (uQ mp) vs us
 | .rf b'=>o.rf?.map fun b=>[.rf b b']
 | .dc us=>o.dc?.bind fun vs=>nT (Gv mp) vs us
 | _=>none
noncomputable def AO.isF:AO->Bool | .opq _=>false | .dead=>false | .fz _=>false | .lit _ _=>false | .tit _ _=>false | _=>true
noncomputable def KL (mp:Nat->Option Nat) (c:Bool) (o:AO) (j m:Nat):Option (List Ob1):=o.it?.bind fun q=>match c == q.1 && mp q.2.1 == some j with | true=>some [.nat q.2.2 m] | false=>none
noncomputable def GF (mp:Nat->Option Nat) (o u:AO):Option (List Ob1):=match u with
 | .dead=>some []
 | .opq l=>o.opq?.bind fun k=>jW (k == l)
 | .fz u=>o.fz?.bind fun o=>fG mp o u
 | .lit j m=>KL mp true o j m
 | .tit j m=>KL mp false o j m
 | u=>match o.isF with | true=>fG mp o u | false=>none
section
variable {ρ ρ':Rho} {O:Opq} {as as':List Addr} {mp:Nat->Option Nat}
def Mp (mp:Nat->Option Nat) (as as':List Addr):Prop:=∀i j,mp i=some j->∀x,as[i]? = some x->as'[j]? = some x
theorem bT (hm:Mp mp as as') {v u:AV} {V:Value} {l:List Ob1} (e:uQ mp v u=some l) (o:bD ρ ρ' l) (d:Dn ρ as v V):Dn ρ' as' u V:=by
 induction u with
 | any=>trivial
 | none=>rw [IO (dJ e)] at d; exact d
 | bool b=>obtain ⟨a,e1,e2⟩:=az e; rw [v9 e1,aD (dJ e2)] at d; exact d
 | int b =>
  obtain ⟨a,e1,e2⟩:=gR e
  rw [cO e1] at d
  rw [<- e2] at o
  obtain ⟨t,ht⟩:=d
  exact ⟨t,ht.trans (congrArg (fun z=>Value.int z t) o)⟩
 | str y=>obtain ⟨a,e1,e2⟩:=az e; rw [nu e1,aD (dJ e2)] at d; exact d
 | loc j =>
  obtain ⟨i,e1,e2⟩:=az e
  rw [bM e1] at d
  obtain ⟨a,a1,a2⟩:=d
  exact ⟨a,hm _ _ (aD (dJ e2)) _ a1,a2⟩
 | glb x =>
  obtain ⟨a,e1,e2⟩:=gR e
  rw [m5 e1] at d
  rw [<- e2] at o
  exact d.trans o
theorem is {α β:Type} {f:α->α->Option (List Ob1)} {R R':α->β->Prop} (k:∀v u V l,f v u=some l->bD ρ ρ' l->R v V->R' u V):∀{vs us:List α} {Vs:List β} {l:List Ob1},nT f vs us=some l->bD ρ ρ' l->All2 R vs Vs->All2 R' us Vs:=by
 intro vs
 induction vs with
 | nil =>
  intro us Vs l e o x
  induction us using List.casesOn with
  | nil=>refine aa x.n ?_; exact .nil
  | cons _ _=>exact ap e
 | cons v vs ih =>
  intro us Vs l e o x
  induction us using List.casesOn with
  | nil=>exact ap e
  | cons u us =>
   apply bc;intro ng
   obtain ⟨l1,e1,e⟩:=az e
   obtain ⟨l2,e2,e⟩:=gR e
   rw [<- e] at o
   obtain ⟨b,r,hV,d,x⟩:=x.c
   apply ng;clear ng
   refine aa hV ?_
   exact .cons (k _ _ _ _ e1 (bD.app.mp o).1 d) (ih e2 (bD.app.mp o).2 x)
theorem ue {κ:Type} [BEq κ] [LawfulBEq κ] (hm:Mp mp as as') (v u:κ×AV) (V:κ×Value) (l:List Ob1) (e:Gv mp v u=some l) (o:bD ρ ρ' l) (d:v.1=V.1/\Dn ρ as v.2 V.2):u.1=V.1/\Dn ρ' as' u.2 V.2:=by
 unfold Gv at e
 induction q:v.1 == u.1 with
 | true=>rw [q] at e; exact ⟨(aD q).symm.trans d.1,bT hm e o d.2⟩
 | false=>rw [q] at e; exact ap e
theorem jT (hm:Mp mp as as') {vs us:List AV} {Vs:List Value} {l:List Ob1} (e:nT (uQ mp) vs us=some l) (o:bD ρ ρ' l) (x:All2 (Dn ρ as) vs Vs):All2 (Dn ρ' as') us Vs:=is (R:=Dn ρ as) (R':=Dn ρ' as') (fun zw zw zw zw=>bT hm) e o x
theorem DQ {g:Gr} {a:Addr} {o:AO} {vs:List AV} (e:o.sq? = some vs) (x:aN ρ as g a o):aN ρ as g a (.lst vs):=by
 unfold AO.sq? at e
 induction q:o.pl? with
 | none=>rw [q] at e; rw [cy e] at x; exact x
 | some us=>rw [q] at e; rw [lp q,aG e] at x; exact x.pl
theorem aC.f {h:Heap} {a:Addr} {o:AO} (e:o.isF=true) (x:aC ρ O as h a o):aN ρ as h.get? a o:=by induction o using AO.casesOn <;> first | exact x | exact bG e
theorem bI (hm:Mp mp as as') {g:Gr} {a:Addr} {o u:AO} {l:List Ob1} (e:fG mp o u=some l) (ob:bD ρ ρ' l) (x:aN ρ as g a o):aN ρ' as' g a u:=by
 induction u using AO.casesOn with
 | lst us=>obtain ⟨vs,e1,e⟩:=az e; obtain ⟨Vs,y,z⟩:=DQ e1 x; exact ⟨Vs,jT hm e ob y,z⟩
 | tup us=>obtain ⟨vs,e1,e⟩:=az e; rw [cX e1] at x; obtain ⟨Vs,y,z⟩:=x; exact ⟨Vs,jT hm e ob y,z⟩
 | pl us=>obtain ⟨vs,e1,e⟩:=az e; rw [lp e1] at x; obtain ⟨Vs,y,z⟩:=x; exact ⟨Vs,jT hm e ob y,z⟩
 | ns us=>obtain ⟨vs,e1,e⟩:=az e; rw [pq e1] at x; obtain ⟨Vs,y,z⟩:=x; exact ⟨Vs,is (R:=Nm ρ as) (R':=Nm ρ' as') (ue hm) e ob y,z⟩
 | dc us=>obtain ⟨vs,e1,e⟩:=az e; rw [sW e1] at x; obtain ⟨Vs,y,z⟩:=x; exact ⟨Vs,is (R:=Kv ρ as) (R':=Kv ρ' as') (ue hm) e ob y,z⟩
 | inst D j =>
  apply bc;intro ng
  obtain ⟨q,e1,e⟩:=az e
  rw [oP e1] at x
  obtain ⟨dx,y,z⟩:=x
  apply ng;clear ng
  exact ⟨dx,hm _ _ (aD (au (dJ e))) _ y,aD (ag (dJ e))▸z⟩
 | cell u =>
  apply bc;intro ng
  obtain ⟨v,e1,e⟩:=az e
  rw [jZ e1] at x
  obtain ⟨V,y,z⟩:=x
  apply ng;clear ng
  refine ⟨V,?_,z⟩
  induction u with
  | none=>trivial
  | some u =>
   apply bc;intro ng
   obtain ⟨v,hv,e⟩:=az e
   rw [hv] at y
   obtain ⟨y,hV,d⟩:=y
   apply ng;clear ng
   exact ⟨y,hV,bT hm e ob d⟩
 | il b' es' =>
  have e:(match o.il? with | some q=>some [Ob1.il q.1 q.2 b' es'] | none=>(o.pl?.bind gC).map fun es=>[Ob1.ii es b' es'])=some l:=e
  induction q:o.il? with
  | some p =>
   rw [q] at e
   rw [o9 q] at x
   rw [<- aG e] at ob
   obtain ⟨Vs,y,z⟩:=x; exact ⟨Vs,(show _=_ from ob)▸y,z⟩
  | none =>
   rw [q] at e
   apply bc;intro ng
   obtain ⟨es,e1,e⟩:=gR e
   obtain ⟨vs,e1,e2⟩:=az e1
   rw [<- e] at ob
   rw [lp e1] at x
   obtain ⟨Vs,y,z⟩:=x
   apply ng;clear ng
   exact ⟨Vs,(show _=_ from ob)▸gM e2 y,z⟩
 | raw u =>
  apply bc;intro ng
  obtain ⟨t,e1,e⟩:=gR e
  apply ng;clear ng
  rw [AA e1] at x
  rw [<- e] at ob
  exact (show t=u from ob)▸x
 | rf b' =>
  apply bc;intro ng
  obtain ⟨b,e1,e⟩:=gR e
  apply ng;clear ng
  rw [kL e1] at x
  rw [<- e] at ob
  have ob:ρ.l b=ρ'.l b':=ob
  have x:At g a (.pl ((ρ.l b).map ak)):=x
  rw [ob] at x; exact x
 | opq _=>exact ap e
 | lit _ _=>exact ap e
 | tit _ _=>exact ap e
 | dead=>exact ap e
 | fz _=>exact ap e
theorem ut {o:AO} {c:Bool} {j m:Nat} {l:List Ob1} (e:KL mp c o j m=some l):∃i n,o=Aj c i n/\mp i=some j/\l = [.nat n m]:=by
 apply bc;intro ng
 obtain ⟨q,e1,e⟩:=az e
 apply ng;clear ng
 have e:(match c == q.1 && mp q.2.1 == some j with | true=>some [Ob1.nat q.2.2 m] | false=>none)=some l:=e
 induction z:c == q.1 && mp q.2.1 == some j with
 | true=>rw [z] at e; exact ⟨q.2.1,q.2.2,aD (ag z)▸zO e1,aD (au z),(aG e).symm⟩
 | false=>rw [z] at e; exact ap e
theorem Az (hm:Mp mp as as') {h:Heap} {a:Addr} {o u:AO} {l:List Ob1} (e:GF mp o u=some l) (ob:bD ρ ρ' l) (x:aC ρ O as h a o):aC ρ' O as' h a u/\(u.own=true->o.own=true):=by
 have key:∀{u:AO},(match o.isF with | true=>fG mp o u | false=>none)=some l->aC ρ' O as' h a u/\(u.own=true->o.own=true):=by
  intro u e
  induction q:o.isF with
  | true=>rw [q] at e; exact ⟨aN.at (G:=h.get?) (fun zw e=>e) (bI hm e ob (x.f q)),fun zw=>by induction o using AO.casesOn <;> first | rfl | exact bG q⟩
  | false=>rw [q] at e; exact ap e
 induction u using AO.casesOn with
 | dead=>exact ⟨trivial,fun z=>bG z⟩
 | opq k=>obtain ⟨i,e1,e⟩:=az e; rw [uc e1,aD (dJ e)] at x; exact ⟨x,fun z=>bG z⟩
 | fz u=>obtain ⟨o',e1,e⟩:=az e; rw [EO e1] at x; exact ⟨bI hm e ob x,fun z=>bG z⟩
 | lit j m =>
  apply bc;intro ng
  obtain ⟨i,n,ho,e1,hl⟩:=ut e
  apply ng;clear ng
  rw [ho] at x ⊢
  rw [hl] at ob
  apply bc;intro ng
  obtain ⟨la,y,z⟩:=x
  apply ng;clear ng
  exact ⟨⟨la,hm _ _ e1 _ y,(show n=m from ob)▸z⟩,fun z=>z⟩
 | tit j m =>
  apply bc;intro ng
  obtain ⟨i,n,ho,e1,hl⟩:=ut e
  apply ng;clear ng
  rw [ho] at x ⊢
  rw [hl] at ob
  apply bc;intro ng
  obtain ⟨la,y,z⟩:=x
  apply ng;clear ng
  exact ⟨⟨la,hm _ _ e1 _ y,(show n=m from ob)▸z⟩,fun z=>z⟩
 | _=>exact key e
end
noncomputable def cE (mp:Nat->Option Nat) (ob:List AO):List Nat->List AO->Option (List Ob1)
 | [],us=>(match us with | []=>some [] | _::_=>none)
 | j::m,us=>(match us with | []=>none | u::us=>(ob[j]?).bind fun o=>(GF mp o u).bind fun l=>(cE mp ob m us).map (l++·))
noncomputable def yj (mp:Nat->Option Nat) (ls:List (Str×AV)):List (Str×AV)->Option (List Ob1)
 | []=>some []
 | p::us=>(ls.lookup p.1).bind fun v=>(uQ mp v p.2).bind fun l=>(yj mp ls us).map (l++·)
section
variable {mp:Nat->Option Nat} {l1 l2:List Ob1}
theorem oi {i j:Nat} (e:mp i=some j):uQ mp (.loc i) (.loc j)=some []:=nA e
theorem iR {α:Type} {f:α->α->Option (List Ob1)} {v u:α} {vs us:List α} (e1:f v u=some l1) (e2:nT f vs us=some l2):nT f (v::vs) (u::us)=some (l1++l2):=by
 show ((f v u).bind fun l=>(nT f vs us).map (l++·))=_
 refine aa e1 (aa e2 ?_); rfl
theorem f6 {ob:List AO} {j:Nat} {m:List Nat} {o u:AO} {us:List AO} (e0:ob[j]? = some o) (e1:GF mp o u=some l1) (e2:cE mp ob m us=some l2):cE mp ob (j::m) (u::us)=some (l1++l2):=by
 show ((ob[j]?).bind fun o=>(GF mp o u).bind fun l=>(cE mp ob m us).map (l++·))=_
 rw [e0,Option.bind_some,e1,e2]; rfl
theorem Fb {C:Addr} {i j:Nat} (e:mp i=some j):fG mp (.inst C i) (.inst C j)=some []:=by
 show jW (C == C && mp i == some j)=_
 rw [e,beq_self_eq_true,beq_self_eq_true]; rfl
end
noncomputable def eX (m:List Nat) (i:Nat):Option Nat:=m.idxOf? i
noncomputable def lP (mp:Nat->Option Nat) (cl cl':List (Str×Nat)):Bool:=cl'.all fun x=>(cl.lookup x.1).bind mp == some x.2
noncomputable def aM (m:List Nat) (s s':St):Option (List Ob1):=match decide m.Nodup && s'.pc.isEmpty && lP (eX m) s.cl s'.cl with
 | true=>(cE (eX m) s.ob m s'.ob).bind fun l=>(yj (eX m) s.ls s'.ls).map (l++·)
 | false=>none
section
variable {w:World} {ρ ρ':Rho} {O:Opq} {G:Gr} {env:Env} {h h':Heap} {s s':St} {as:List Addr}
theorem All2.rget {α β:Type} {R:α->β->Prop} {l:List α} {m:List β} (x:All2 R l m):∀{i:Nat} {b:β},m[i]? = some b->∃a,l[i]? = some a/\R a b:=by
 induction x with
 | nil=>intro i b e; exact ap e
 | cons h _ ih =>
  intro i b e
  induction i using Nat.casesOn with
  | zero=>exact ⟨_,rfl,aG e▸h⟩
  | succ i=>exact ih e
theorem eK {mp:Nat->Option Nat} {ob:List AO} {as':List Addr} (hm:Mp mp as as') (sz:as.length=ob.length) (hob:∀(i:Nat) o a,ob[i]? = some o->as[i]? = some a->aC ρ O as h a o):∀{m:List Nat} {us:List AO} {l:List Ob1},cE mp ob m us=some l->bD ρ ρ' l->
  m.length=us.length/\∀(i:Nat) u,us[i]? = some u->∃j o a,m[i]? = some j/\ob[j]? = some o/\as[j]? = some a/\aC ρ' O as' h a u/\(u.own=true->o.own=true):=by
 intro m
 induction m with
 | nil =>
  intro us l e o
  induction us using List.casesOn with
  | nil=>exact ⟨rfl,fun i u e=>ap e⟩
  | cons _ _=>exact ap e
 | cons j m ih =>
  intro us l e o
  induction us using List.casesOn with
  | nil=>exact ap e
  | cons u us =>
   apply bc;intro ng
   obtain ⟨o1,eo,e⟩:=az e
   obtain ⟨l1,e1,e⟩:=az e
   obtain ⟨l2,e2,e⟩:=gR e
   rw [<- e] at o
   obtain ⟨i1,i2⟩:=ih e2 (bD.app.mp o).2
   apply ng;clear ng
   refine ⟨congrArg Nat.succ i1,fun i u' eu=>?_⟩
   induction i using Nat.casesOn with
   | zero =>
    have hl:as[j]? = some (as[j]'(sz▸(List.getElem?_eq_some_iff.mp eo).1)):=List.getElem?_eq_getElem _
    exact ⟨j,o1,_,rfl,eo,hl,aG eu▸Az hm e1 (bD.app.mp o).1 (hob j o1 _ eo hl)⟩
   | succ i=>exact i2 i u' eu
theorem yw {mp:Nat->Option Nat} {ls:List (Str×AV)} {as':List Addr} {f:Str->Option Value} (hm:Mp mp as as') (hl:∀x v,ls.lookup x=some v->∃V,f x=some V/\Dn ρ as v V):∀{us:List (Str×AV)} {l:List Ob1},yj mp ls us=some l->bD ρ ρ' l->
  ∀x v,us.lookup x=some v->∃V,f x=some V/\Dn ρ' as' v V:=by
 intro us
 induction us with
 | nil=>intro _ _ _ x v e; exact ap e
 | cons p us ih =>
  intro l e o x v' e'
  apply bc;intro ng
  obtain ⟨v,ev,e⟩:=az e
  obtain ⟨l1,e1,e⟩:=az e
  obtain ⟨l2,e2,e⟩:=gR e
  apply ng;clear ng
  rw [<- e] at o
  have e':(match x == p.1 with | true=>some p.2 | false=>us.lookup x)=some v':=e'
  induction q:x == p.1 with
  | true =>
   rw [q] at e'
   apply bc;intro ng
   obtain ⟨V,z1,z2⟩:=hl p.1 v ev
   apply ng;clear ng
   exact ⟨V,(congrArg f (aD q)).trans z1,aG e'▸bT hm e1 (bD.app.mp o).1 z2⟩
  | false=>rw [q] at e'; exact ih e2 (bD.app.mp o).2 x v' e'
theorem bE {as:List Addr} {j:Nat} {a:Addr} (e:as[j]? = some a):as.getD j 0=a:=by refine aa (List.getD_eq_getElem?_getD) (aa e ?_); rfl
theorem dF {m:List Nat} {as':List Addr} (h':as'=m.map fun j=>as.getD j 0):Mp (eX m) as as':=by
 intro i j e x ex
 have hi:m[j]? = some i:=by
  obtain ⟨h1,h2⟩:=List.findIdx?_eq_some_iff_getElem.mp e
  refine aa (List.getElem?_eq_getElem h1) ?_
  exact congrArg some (aD h2.1)
 refine aa h' (aa (List.getElem?_map) (aa hi ?_))
 exact congrArg some (bE ex)
theorem zY {α:Type} {cl:List (Str×α)} {x:Str} {i:α} (e:cl.lookup x=some i):(x,i)∈cl:=by
 induction cl with
 | nil=>exact ap e
 | cons p r ih =>
  have e:(match x == p.1 with | true=>some p.2 | false=>r.lookup x)=some i:=e
  induction q:x == p.1 with
  | true=>rw [q] at e; refine aa (aD q) (aa (Eq.symm (aG e)) ?_); exact .head _
  | false=>rw [q] at e; exact .tail _ (ih e)
theorem t9 {mp:Nat->Option Nat} {cl cl':List (Str×Nat)} (h:lP mp cl cl'=true) {x:Str} {i:Nat} (e:cl'.lookup x=some i):∃j,cl.lookup x=some j/\mp j=some i :=
 az (aD (List.all_eq_true.mp h _ (zY e)))
structure ReTab (ρ ρ':Rho) (O:Opq) (h:Heap) (s s':St) (as:List Addr) (m:List Nat) (as':List Addr):Prop where
 pc:s'.pc = []
 cl:lP (eX m) s.cl s'.cl=true
 mp:Mp (eX m) as as'
 sz:as'.length=s'.ob.length
 ob:∀(i:Nat) u a,s'.ob[i]? = some u->as'[i]? = some a->∃j o,m[i]? = some j/\s.ob[j]? = some o/\as[j]? = some a/\aC ρ' O as' h a u/\(u.own=true->o.own=true)
 nd:(∀(i j:Nat) o o' a,s.ob[i]? = some o->s.ob[j]? = some o'->o.own=true->o'.own=true->as[i]? = some a->as[j]? = some a->i=j)->
  ∀(i j:Nat) u u' a,s'.ob[i]? = some u->s'.ob[j]? = some u'->u.own=true->u'.own=true->as'[i]? = some a->as'[j]? = some a->i=j
 ls:∀{f:Str->Option Value},(∀x v,s.ls.lookup x=some v->∃V,f x=some V/\Dn ρ as v V)->∀x v,s'.ls.lookup x=some v->∃V,f x=some V/\Dn ρ' as' v V
theorem tB (sz:as.length=s.ob.length) (hob:∀(i:Nat) o a,s.ob[i]? = some o->as[i]? = some a->aC ρ O as h a o) (m:List Nat) {l:List Ob1} (e:aM m s s'=some l) (o:bD ρ ρ' l) : ReTab ρ ρ' O h s s' as m (m.map fun j=>as.getD j 0):=by
 have e:(match decide m.Nodup && s'.pc.isEmpty && lP (eX m) s.cl s'.cl with | true=>(cE (eX m) s.ob m s'.ob).bind fun l=>(yj (eX m) s.ls s'.ls).map (l++·) | false=>none)=some l:=e
 induction c:decide m.Nodup && s'.pc.isEmpty && lP (eX m) s.cl s'.cl with
 | false=>rw [c] at e; exact ap e
 | true =>
  rw [c] at e
  apply bc;intro ng
  obtain ⟨l1,e1,e⟩:=az e
  obtain ⟨l2,e2,e⟩:=gR e
  rw [<- e] at o
  have hm:=dF (as:=as) (m:=m) rfl
  obtain ⟨t1,t2⟩:=eK hm sz hob e1 (bD.app.mp o).1
  apply ng;clear ng
  have get:∀(i:Nat) u a,s'.ob[i]? = some u->(m.map fun j=>as.getD j 0)[i]? = some a->∃j o,m[i]? = some j/\s.ob[j]? = some o/\as[j]? = some a/\aC ρ' O (m.map fun j=>as.getD j 0) h a u/\(u.own=true->o.own=true):=fun i u a eu ea=>by
   apply bc;intro ng
   obtain ⟨j,o,a',x1,x2,x3,x4⟩:=t2 i u eu
   apply ng;clear ng
   rw [List.getElem?_map,x1] at ea
   have ea:a'=a:=(bE x3).symm.trans (aG ea)
   exact ⟨j,o,x1,x2,ea▸x3,ea▸x4⟩
  refine ⟨List.isEmpty_iff.mp (au (ag c)),au c,hm,(List.length_map _).trans t1,get,fun nd i i' u u' a eu eu' w1 w2 ea ea'=>?_,fun hl=>yw hm hl e2 (bD.app.mp o).2⟩
  apply bc;intro ng
  obtain ⟨j,o,x1,x2,x3,x4,x5⟩:=get i u a eu ea
  obtain ⟨j',o',y1,y2,y3,y4,y5⟩:=get i' u' a eu' ea'
  apply ng;clear ng
  have q:=nd j j' o o' a x2 y2 (x5 w1) (y5 w2) x3 y3
  exact (List.getElem?_inj (List.getElem?_eq_some_iff.mp x1).1 (of_decide_eq_true (ag (ag c)))).mp (x1.trans ((congrArg some q).trans y1.symm))
theorem SR.re (S:SR w ρ O G env h s as) (m:List Nat) {l:List Ob1} (e:aM m s s'=some l) (o:bD ρ ρ' l):SR w ρ' O G env h s' (m.map fun j=>as.getD j 0):=by
 have T:=tB S.sz (fun i o a e e'=>(S.ob i o a e e').1) m e o
 obtain ⟨f,N,hl⟩:=S.lc
 refine ⟨S.bs,S.kp,S.og,S.fL,S.eg,S.eb,S.ek,⟨f,N,T.ls hl⟩,fun x i e=>?_,T.sz,fun i u a eu ea=>?_,T.nd S.nd,fun p hp=>by rw [T.pc] at hp; cases hp⟩
 ·obtain ⟨j,ej,ji⟩:=t9 T.cl e
  obtain ⟨a,a1,a2⟩:=S.cc x j ej
  exact ⟨a,T.mp _ _ ji _ a1,a2⟩
 ·obtain ⟨j,o,x1,x2,x3,x4,x5⟩:=T.ob i u a eu ea
  exact ⟨x4,fun ow=>(S.ob j o a x2 x3).2 (x5 ow)⟩
theorem Co.re {pc:List (CE×Bool)} (S:Co w ρ O G h s.ob pc as) (m:List Nat) {l:List Ob1} (e:aM m s s'=some l) (o:bD ρ ρ' l):Co w ρ' O G h s'.ob [] (m.map fun j=>as.getD j 0):=by
 have T:=tB S.sz (fun i o a e e'=>(S.ob i o a e e').1) m e o
 refine ⟨S.bs,S.kp,S.og,T.sz,fun i u a eu ea=>?_,T.nd S.nd,fun p hp=>nomatch hp⟩
 apply bc;intro ng
 obtain ⟨j,o,x1,x2,x3,x4,x5⟩:=T.ob i u a eu ea
 apply ng;clear ng
 exact ⟨x4,fun ow=>(S.ob j o a x2 x3).2 (x5 ow)⟩
theorem SR.join (S:SR w ρ O G env h s as) {as2:List Addr} {us:List AO} (x:All2 (fun a u=>aN ρ (as++as2) O.g a u) as2 us):SR w ρ O G env h { s with ob:=s.ob++us.map .fz } (as++as2):=by
 have pp:Pre as (as++as2):=⟨_,rfl⟩
 have cs:∀(i:Nat) o a,(s.ob++us.map AO.fz)[i]? = some o->(as++as2)[i]? = some a->(s.ob[i]? = some o/\as[i]? = some a)\/∃u,o = .fz u/\aN ρ (as++as2) O.g a u:=fun i o a e e'=>by
  by_cases hi:i < s.ob.length
  ·rw [List.getElem?_append_left hi] at e
   rw [List.getElem?_append_left (by refine aa S.sz ?_; exact hi)] at e'
   exact .inl ⟨e,e'⟩
  ·rw [List.getElem?_append_right (by (first | lia | omega)),List.getElem?_map] at e
   rw [List.getElem?_append_right (by refine aa S.sz ?_; (first | lia | omega)),S.sz] at e'
   apply bc;intro ng
   obtain ⟨u,z1,z2⟩:=x.get e'
   apply ng;clear ng
   rw [z1] at e; cases e
   exact .inr ⟨u,rfl,z2⟩
 apply bc;intro ng
 obtain ⟨f,N,hl⟩:=S.lc
 apply ng;clear ng
 refine ⟨S.bs,S.kp,S.og,S.fL,S.eg,S.eb,S.ek,⟨f,N,fun x v e=>let ⟨V,z1,z2⟩:=hl x v e; ⟨V,z1,z2.pre pp⟩⟩,fun x i e=>let ⟨a,z1,z2⟩:=S.cc x i e; ⟨a,pp.get z1,z2⟩,by simp [S.sz,x.len],fun i o a e e'=>?_,fun i i' o o' a e1 e2 w1 w2 e3 e4=>?_,S.pc⟩
 ·rcases cs i o a e e' with ⟨f1,f2⟩ | ⟨u,rfl,z⟩
  ·obtain ⟨x,y⟩:=S.ob i o a f1 f2
   exact ⟨x.keep pp fun zw zw ex=>ex,y⟩
  ·exact ⟨z,fun z=>by exact bG z⟩
 ·rcases cs i o a e1 e3 with ⟨f1,f2⟩ | ⟨u,rfl,z⟩
  ·rcases cs i' o' a e2 e4 with ⟨g1,g2⟩ | ⟨u',rfl,z'⟩
   ·exact S.nd i i' o o' a f1 g1 w1 w2 f2 g2
   ·exact bG w2
  ·exact bG w1
end
noncomputable def ww:Ob1->Bool | .ie a b=>a.same b | .rf a b=>a == b | .nat a b=>a == b | .il b es b' es'=>b == b' && yp IE.same es es' | _=>false
theorem fZ {ρ:Rho}:∀{l:List Ob1},l.all ww=true->bD ρ ρ l
 | [],_=>trivial
 | o::r,h=>by
  rw [List.all_cons,Bool.and_eq_true] at h
  refine bD.cons.mpr ⟨?_,fZ h.2⟩
  have h:=h.1
  cases o <;> try (cases h)
  ·have h:=IE.same_ok h; subst h; rfl
  ·exact eq_of_beq h
  ·have h:=Bool.and_eq_true_iff.mp h
   have h1:=eq_of_beq h.1
   have h2:=jI (fun zw zw=>IE.same_ok) _ _ h.2
   subst h1 h2; rfl
  ·have h:=eq_of_beq h; subst h; rfl
noncomputable def BU (ob:List AO):Bool:=(cE (eX [0,1,2]) ob [0,1,2] bj).any fun l=>l.all ww
noncomputable def IP (a:Addr):Nat:=if a == 763 then 1 else if a == 770 then 2 else 3
noncomputable def xb:Hk:=fun a args ob=>(eA args).bind fun p=>p.1.l?.bind fun i=>p.2.i?.bind fun e=>if (a == 763 || a == 770 || a == 777) && (BU ob && i == 1) then some ([.le (.c 97) e,.le e (.c 99)],.int (.fn (IP a) e (.c 0) (.c 0)),ob) else none
noncomputable def aY (P:Params) (a:Addr):FnI:=(dN P a).getD ⟨⟨[],[],none,[],[],none,[]⟩,[],default,[]⟩
noncomputable def al (P:Params) (a:Addr):List Stmt:=(aY P a).body
noncomputable def bm (P:Params) (a:Addr):Scope:=(aY P a).scope
noncomputable def bf:Stmt->List Stmt | .For _ _ b _ _=>b | .While _ b _ _=>b | .If _ b _ _=>b | _=>[]
noncomputable def aQ:Stmt->Expr | .For _ it _ _ _=>it | .While t _ _ _=>t | .If t _ _ _=>t | .Return (some e) _=>e | .Assign _ e _=>e | .Expr e _=>e | _=>.Constant .none 0 default
noncomputable def bh:Expr->Str | .Name x _=>x | _=>Str.ofString ""
noncomputable def aR:Expr->Pos | .Name _ p=>p | _=>default
noncomputable def cB:Stmt->Expr | .For x _ _ _ _=>x | _=>.Constant .none 0 default
section
variable {w:World} {ρ:Rho} {O:Opq} {d:Nat} {A:Around} {gs:Array GenState} {dr:Drawn} {os:OsState} {G:Gr} {env:Env} {hk:Hk}
theorem Co.pcs {h:Heap} {ob:List AO} {pc:List (CE×Bool)} {as:List Addr} (S:Co w ρ O G h ob pc as):Co w ρ O G h ob [] as:=⟨S.bs,S.kp,S.og,S.sz,S.ob,S.nd,fun zw m=>nomatch m⟩
theorem Hl {n0:Nat} {r0:Nat} (H:ay w ρ O hk r0) {f:Addr} {args:List AV} {ob:List AO} {t:Tr} (e:sx w.params hk n0 f args ob=t) {h:Heap} {n:Nat} {as:List Addr} {Us:List Value} {Q:Value->Shared->Prop} {Er:Value->Shared->Prop} (R:Room A (n0 + r0))
  (S:Co w ρ O G h ob [] as) (da:All2 (Dn ρ as) args Us)
  (y:t.ok ρ fun f s=>∀v V h' as' n',f = .rt v->Co w ρ O G h' s.ob [] as'->Pre as as'->Dn ρ as' v V->Q V ⟨h',gs,dr,n',os⟩):wpAny (model pr w) A (call (.ref f) Us) Q Er ⟨h,gs,dr,n,os⟩:=by
 rw [<- e] at y
 exact (fM H n0).C (s:=⟨[],[],ob,[]⟩) R y S rfl da fun v V s' h' as' n' zw zw y C p d=>y v V h' as' n' rfl C.pcs p d
theorem Fc {n0:Nat} {r0:Nat} (H:ay w ρ O hk r0) {bs:List Stmt} {s:St} {t:Tr} (e:zX w.params hk n0 env.scope bs s=t) {h:Heap} {n:Nat} {as:List Addr} {Q:Flow->Shared->Prop} {Er:Value->Shared->Prop} (R:Room A (n0 + r0))
  (S:SR w ρ O G env h s as)
  (y:t.ok ρ fun f s=>∀F h' as' n',SR w ρ O G env h' s as'->Pre as as'->lW ρ as' f F->Q F ⟨h',gs,dr,n',os⟩):wpAny (model pr w) A (execs bs env) Q Er ⟨h,gs,dr,n,os⟩:=by
 rw [<- e] at y
 exact cq (fM H n0) R y S fun fl F s' h' as' n' y S' p df=>y F h' as' n' (S'.pcs fun zw m=>nomatch m) p df
theorem aH {M:Model} {A:Around} {env:Env} {rest:List Stmt} {Q:Flow->Shared->Prop} {Er:Value->Shared->Prop} {bs:List Stmt} {s:Shared} (h:wpAny M A (execs bs env) (fun F s'=>match F with | .next=>wpAny M A (execs rest env) Q Er s' | F=>Q F s') Er s) :
  wpAny M A (execs (bs++rest) env) Q Er s:=fun Γ p hΓ=>by
 have key:∀(bs:List Stmt) (p:Pos) (s:Shared),Sem.wp M Γ (execs bs env) (fun F zw s'=>match F with | .next=>wpAny M A (execs rest env) Q Er s' | F=>Q F s') (fun e zw s'=>Er e s') p s->Sem.wp M Γ (execs (bs++rest) env) (fun F zw s'=>Q F s') (fun e zw s'=>Er e s') p s:=by
  intro bs
  induction bs with
  | nil=>intro p s h; exact h Γ p hΓ
  | cons b r ih =>
   intro p s h
   rw [execs_cons,Sem.wp_bind'] at h
   rw [List.cons_append,execs_cons,Sem.wp_bind']
   refine Sem.wp_mono M Γ _ (fun f p' s' h'=>?_) (fun zw zw zw h'=>h') _ _ h
   cases f <;> first | exact ih p' s' h' | exact h'
 exact key bs p s (h Γ p hΓ)
def Fx (fx:List (Nat×Addr)) (as:List Addr):Prop:=∀p∈fx,as[p.1]? = some p.2
theorem go {d:Nat} {a:Addr} {fi:FnI} {args:List AV} {ls:List (Str×AV)} {ob:List AO} {h:Heap} {n:Nat} {as:List Addr} {Us:List Value} {Q:Value->Shared->Prop} {Er:Value->Shared->Prop} (hR:Room A (d + 1))
  (hfi:dN w.params a=some fi) (hb:aP fi args=some ls) (S:Co w ρ O G h ob [] as) (da:All2 (Dn ρ as) args Us)
  (q:∀A' env h' n' as',Room A' d->env.scope=fi.scope->Pre as as'->
   SR w ρ O G env h' ⟨ls.reverse.filter (fun x=>decide (fi.scope.names.lookup x.1=some .local)),(ae fi.scope.names).zip ((List.range (ae fi.scope.names).length).map (ob.length + ·)),ob++(ae fi.scope.names).map (fun n=>.cell (ls.reverse.lookup n)),[]⟩ as'->
   ∀E',wpAny (model pr w) A' (execs fi.body env) (fun fl s'=>Q (match fl with | .ret v=>v | _=>.none) s') E' ⟨h',gs,dr,n',os⟩) :
  wpAny (model pr w) A (call (.ref a) Us) Q Er ⟨h,gs,dr,n,os⟩ :=
 wpAny_call (zj (by have:=hR.dp; omega) (fun env=>hR.deeper env) hfi hb S da q)
end
section
set_option backward.match.sparseCases false
inductive VC
 | ok (l:List Ob1) | br (c:CE) (a b:VC) | req (c:CE) (t:VC) | fail
def VC.den (ρ ρ':Rho):VC->Prop
 | .ok l=>bD ρ ρ' l
 | .br c a b=>(c.den ρ->a.den ρ ρ')/\(¬c.den ρ->b.den ρ ρ')
 | .req c t=>c.den ρ/\t.den ρ ρ'
 | .fail=>False
noncomputable def gU (m:List Nat):Fl->Fl->Option (List Ob1)
 | .nx,.nx=>some []
 | .nx,.ct=>some []
 | .ct,.ct=>some []
 | .rt v,.rt u=>uQ (eX m) v u
 | _,_=>none
noncomputable def oG (x:Option (List Ob1×List Ob1)):VC:=match x with | some p=>.ok (p.1++p.2) | none=>.fail
theorem lI {ρ ρ':Rho} {x:Option (List Ob1×List Ob1)} (y:(oG x).den ρ ρ'):∃p,x=some p/\bD ρ ρ' p.1/\bD ρ ρ' p.2:=by
 induction x with
 | none=>exact y.elim
 | some p=>exact ⟨p,rfl,bD.app.mp y⟩
noncomputable def Tr.vc (m:List Nat) (f':Fl) (s':St):Tr->VC
 | .leaf f s=>oG (aq (gU m f f') (aM m s s'))
 | .br c a b=>.br c (a.vc m f' s') (b.vc m f' s')
 | .req c t=>.req c (t.vc m f' s')
 | .fail=>.fail
theorem cU {ρ ρ':Rho} {m:List Nat} {f':Fl} {s':St}:∀{t:Tr},(t.vc m f' s').den ρ ρ'->t.ok ρ fun f s=>∃l0 l,gU m f f'=some l0/\bD ρ ρ' l0/\aM m s s'=some l/\bD ρ ρ' l
 | .leaf f s,y=>by
  obtain ⟨p,e,y1,y2⟩:=lI (x:=aq (gU m f f') (aM m s s')) y
  exact ⟨p.1,p.2,(ah e).1,y1,(ah e).2,y2⟩
 | .br c a b,y=>⟨fun h=>cU (y.1 h),fun h=>cU (y.2 h)⟩
 | .req c t,y=>⟨y.1,cU y.2⟩
 | .fail,y=>y
noncomputable def GI (P:Params) (hk:Hk) (n:Nat) (sc:Scope) (x:Str) (v:AV) (body:List Stmt) (s:St):Tr:=bZ sc x v s fun s=>qm (run P hk n) sc body s fun f s=>.leaf f { s with pc:=[] }
section
variable {w:World} {ρ ρ':Rho} {O:Opq} {d:Nat} {A:Around} {gs:Array GenState} {dr:Drawn} {os:OsState} {G:Gr} {env:Env} {hk:Hk}
theorem yT {n0:Nat} {r0:Nat} (H:ay w ρ O hk r0) {x:Str} {v:AV} {V:Value} {body:List Stmt} {s s':St} {vc:VC} {m:List Nat} (e:(GI w.params hk n0 env.scope x v body s).vc m .ct s'=vc) {h:Heap} {n:Nat} {as:List Addr} {Q:Flow->Shared->Prop} {E1 E2:Value->Shared->Prop} (R:Room A (n0 + r0))
  (S:SR w ρ O G env h s as) (dv:Dn ρ as v V) (y:vc.den ρ ρ')
  (q:∀F h' as' n',(F = .next\/F = .cont)->SR w ρ' O G env h' s' (m.map fun j=>as'.getD j 0)->Pre as as'->Q F ⟨h',gs,dr,n',os⟩) :
  wpAny (model pr w) A (storeName env x V) (fun zw s₂=>wpAny (model pr w) A (execs body env) Q E1 s₂) E2 ⟨h,gs,dr,n,os⟩:=by
 rw [<- e] at y
 have y:=cU y
 unfold GI at y
 refine aW y S dv fun s2 h2 n2 y S2=>?_
 refine cq (fM H n0) R y S2 fun fl F s3 h3 as3 n3 y S3 p3 df=>?_
 apply bc;intro ng
 obtain ⟨l0,l,y1,y2,y3,y4⟩:=y
 apply ng;clear ng
 refine q F h3 as3 n3 ?_ ((S3.pcs (pc:=[]) fun zw m=>nomatch m).re m y3 y4) p3
 induction fl with
 | nx=>exact .inl df
 | ct=>exact .inr df
 | rt v=>exact ap y1
 | bk=>exact ap y1
end
noncomputable def fW (c:Int):Int:=if c=97 then 5 else if c=98 then 11 else 4
noncomputable def fH (c:Int):Int:=if c=97 then 7 else if c=98 then 3 else 1
noncomputable def fD (c:Int):Int:=if c=97 then 2 else if c=98 then 0 else 9
noncomputable def ff (k:Nat) (a b c:Int):Int:=match k with | 1=>fW a | 2=>fH a | 3=>fD a | _=>0
set_option genCtorIdx true in
inductive Nk | chr | skp | krn | box2 | box3 | pck | rul | rul4 | dsc0 | dsc1 | dsc2 | pen | mth
structure Nd where
 k:Nk
 a:List Int
noncomputable def Nk.T (b q:Nat):Nk->List AO
 | .chr=>[.ns [(S' "code",.int (.v q)),(S' "font",.loc 1)],.inst 368 b]
 | .skp=>[.ns [(S' "shrink_order",.int (.v (q + 4))),(S' "shrink",.int (.v (q + 3))),(S' "stretch_order",.int (.v (q + 2))),(S' "stretch",.int (.v (q + 1))),(S' "width",.int (.v q))],.inst 246 b,
   .ns [(S' "leader",.none),(S' "sort",.int (.c 0)),(S' "glue",.loc (b + 1))],.inst 453 (b + 2)]
 | .krn=>[.ns [(S' "sort",.int (.v (q + 1))),(S' "width",.int (.v q))],.inst 431 b]
 | .box2=>[.tup [.int (.c 0),.int (.c 1)],.lst [],.ns [(S' "ratio",.loc b),(S' "order",.int (.c 0)),(S' "sign",.int (.c 0)),(S' "shift",.int (.v (q + 3))),(S' "items",.loc (b + 1)),(S' "depth",.int (.v (q + 2))),(S' "height",.int (.v (q + 1))),(S' "width",.int (.v q)),(S' "kind",.int (.c 2))],.inst 389 (b + 2)]
 | .box3=>[.tup [.int (.c 0),.int (.c 1)],.lst [],.ns [(S' "ratio",.loc b),(S' "order",.int (.c 0)),(S' "sign",.int (.c 0)),(S' "shift",.int (.v (q + 3))),(S' "items",.loc (b + 1)),(S' "depth",.int (.v (q + 2))),(S' "height",.int (.v (q + 1))),(S' "width",.int (.v q)),(S' "kind",.int (.c 3))],.inst 389 (b + 2)]
 | .pck=>[.ns [(S' "ratio",.any),(S' "order",.any),(S' "sign",.any),(S' "shift",.int (.v (q + 3))),(S' "items",.any),(S' "depth",.int (.v (q + 2))),(S' "height",.int (.v (q + 1))),(S' "width",.int (.v q)),(S' "kind",.int (.c 2))],.inst 389 b]
 | .rul=>[.ns [(S' "depth",.none),(S' "height",.none),(S' "width",.int (.v q))],.inst 410 b]
 | .rul4=>[.ns [(S' "depth",.int (.c 4)),(S' "height",.none),(S' "width",.int (.v q))],.inst 410 b]
 | .dsc0=>dsc b q 0
 | .dsc1=>dsc b q 1
 | .dsc2=>dsc b q 2
 | .pen=>[.ns [(S' "value",.int (.v q))],.inst 474 b]
 | .mth=>[.ns [(S' "width",.int (.v q)),(S' "is_on",.bool false)],.inst 516 b]
where dsc (b q m:Nat):List AO:=[.ns [(S' "code",.int (.c 97)),(S' "font",.loc 1)],.inst 368 b,.ns [(S' "code",.int (.v q)),(S' "font",.loc 1)],.inst 368 (b + 2),.ns [(S' "sort",.int (.c 0)),(S' "width",.int (.v (q + 1)))],.inst 431 (b + 4),
 .lst [.loc (b + 1)],.lst [],.lst ([.loc (b + 3),.loc (b + 5)].take m),.ns [(S' "middle",.loc (b + 8)),(S' "post",.loc (b + 7)),(S' "pre",.loc (b + 6))],.inst 495 (b + 9)]
noncomputable def Nk.last:Nk->Nat
 | .chr=>1 | .skp=>3 | .krn=>1 | .box2=>3 | .box3=>3 | .pck=>1 | .rul=>1 | .rul4=>1 | .dsc0=>10 | .dsc1=>10 | .dsc2=>10 | .pen=>1 | .mth=>1
noncomputable def dy (a:List Int):Rho:=⟨fun i=>a.getD i 0,ff,fun zw=>[]⟩
def bP (g:Gr) (F:List Addr) (a:Addr) (nd:Nd):Prop:=∃as2:List Addr,as2[nd.k.last]? = some a/\All2 (fun x u=>aN (dy nd.a) (F++as2) g x u) as2 (nd.k.T 3 0)
noncomputable def Nd.i (nd:Nd) (i:Nat):Int:=nd.a.getD i 0
noncomputable def Nd.w (nd:Nd):Int:=match nd.k with
 | .chr=>fW (nd.i 0) | .skp | .krn | .box2 | .box3 | .pck | .rul | .rul4 | .mth=>nd.i 0 | .dsc0 | .pen=>0 | .dsc1=>fW (nd.i 0) | .dsc2=>fW (nd.i 0) + nd.i 1
noncomputable def Nd.h (nd:Nd):Int:=match nd.k with
 | .chr=>fH (nd.i 0) | .box2 | .box3 | .pck=>nd.i 1 - nd.i 3 | .dsc1=>max 0 (fH (nd.i 0)) | .dsc2=>max 0 (max (fH (nd.i 0)) 0) | _=>0
noncomputable def Nd.d (nd:Nd):Int:=match nd.k with
 | .chr=>fD (nd.i 0) | .box2 | .box3 | .pck=>nd.i 2 + nd.i 3 | .rul4=>4 | .dsc1=>max 0 (fD (nd.i 0)) | .dsc2=>max 0 (max (fD (nd.i 0)) 0) | _=>0
noncomputable def Nd.st (nd:Nd) (k:Int):Int:=match nd.k with | .skp=>if nd.i 2=k then nd.i 1 else 0 | _=>0
noncomputable def Nd.sh (nd:Nd) (k:Int):Int:=match nd.k with | .skp=>if nd.i 4=k then nd.i 3 else 0 | _=>0
def Nd.ok (nd:Nd):Prop:=match nd.k with
 | .chr | .dsc1 | .dsc2=>97<=nd.i 0/\nd.i 0<=99
 | .skp=>0<=nd.i 2/\nd.i 2<=3/\0<=nd.i 4/\nd.i 4<=3
 | _=>True
structure Tot where
 H:Int
 D:Int
 n:Int
 s0:Int
 s1:Int
 s2:Int
 s3:Int
 r0:Int
 r1:Int
 r2:Int
 r3:Int
noncomputable def Tot.l (t:Tot):List Int:=[t.H,t.D,t.n,t.s0,t.s1,t.s2,t.s3,t.r0,t.r1,t.r2,t.r3]
noncomputable def Tot.add (t:Tot) (nd:Nd):Tot:=⟨max t.H nd.h,max t.D nd.d,t.n + nd.w,t.s0 + nd.st 0,t.s1 + nd.st 1,t.s2 + nd.st 2,t.s3 + nd.st 3,t.r0 + nd.sh 0,t.r1 + nd.sh 1,t.r2 + nd.sh 2,t.r3 + nd.sh 3⟩
noncomputable def aB (t:Tot) (a:List Int):Rho:=⟨fun i=>(t.l++a).getD i 0,ff,fun zw=>[]⟩
noncomputable def q8 (i:Nat) (more:List AO):St:=⟨[(S' "items",.loc 3),(S' "totals",.loc 8),(S' "height",.int (.v 0)),(S' "depth",.int (.v 1))],[],
 bj++[.dead,.lit 3 i,.lst [.int (.v 3),.int (.v 4),.int (.v 5),.int (.v 6)],.lst [.int (.v 7),.int (.v 8),.int (.v 9),.int (.v 10)],.ns [(S' "shrink",.loc 6),(S' "stretch",.loc 5),(S' "natural",.int (.v 2))],.inst 309 7]++more,[]⟩
noncomputable def pz (P:Params) (i:Nat) (k:Nk):VC :=
 (GI P xb 37 (bm P 595) (bh (cB ((al P 595).getD 2 (.Pass default)))) (.loc (9 + k.last)) (bf ((al P 595).getD 2 (.Pass default))) (q8 (i + 1) ((k.T 9 11).map .fz))).vc [0,1,2,3,4,5,6,7,8] .ct (q8 (i + 1) [])
end
noncomputable def DG (P:Params) (hk:Hk) (n:Nat) (sc:Scope) (e:Expr) (s:St):Tr:=(run P hk n).E sc e s fun v s=>.leaf (.rt v) { s with pc:=[] }
section
variable {w:World} {ρ ρ':Rho} {O:Opq} {d:Nat} {A:Around} {gs:Array GenState} {dr:Drawn} {os:OsState} {G:Gr} {env:Env} {hk:Hk}
theorem Co.all {h:Heap} {ob:List AO} {as:List Addr} (W:Wd w h) (og:∀a o,O.g a=some o->h.get? a=some o) (x:All2 (fun a o=>aC ρ O as h a o/\o.own=false) as ob):Co w ρ O h.get? h ob [] as:=by
 refine ⟨⟨h,W,fun zw zw e=>e⟩,fun zw zw e=>e,og,x.len,fun i o a eo ea=>?_,fun i j o o' a e1 e2 w1 w2 e3 e4=>?_,fun zw m=>nomatch m⟩
 ·obtain ⟨o',z1,z2,z3⟩:=x.get ea
  rw [eo] at z1; cases z1
  exact ⟨z2,fun ow=>by rw [z3] at ow; cases ow⟩
 ·obtain ⟨o'',z1,z2,z3⟩:=x.get e3
  rw [e1] at z1; cases z1
  rw [z3] at w1; cases w1
theorem Tr.mono {t:Tr} {p q:Fl->St->Prop} (k:∀f s,p f s->q f s) (x:t.ok ρ p):t.ok ρ q:=by
 induction t with
 | leaf f s=>exact k _ _ x
 | br c a b ia ib=>exact ⟨fun h=>ia (x.1 h),fun h=>ib (x.2 h)⟩
 | req c t it=>exact ⟨x.1,it x.2⟩
 | fail=>exact x
theorem MO {n0:Nat} {r0:Nat} (H:ay w ρ O hk r0) {bs:List Stmt} {s s':St} {vc:VC} {m:List Nat} {sc:Scope} (hsc:env.scope=sc) (e:(zX w.params hk n0 sc bs s).vc m .nx s'=vc) {h:Heap} {n:Nat} {as:List Addr} {Q:Flow->Shared->Prop} {E:Value->Shared->Prop} (R:Room A (n0 + r0))
  (S:SR w ρ O G env h s as) (y:vc.den ρ ρ')
  (q:∀h' as' n',SR w ρ' O G env h' s' (m.map fun j=>as'.getD j 0)->Pre as as'->Q .next ⟨h',gs,dr,n',os⟩):wpAny (model pr w) A (execs bs env) Q E ⟨h,gs,dr,n,os⟩:=by
 apply bc;intro ng
 subst hsc
 apply ng;clear ng
 rw [<- e] at y
 refine Fc H rfl R S (Tr.mono ?_ (cU y))
 rintro f s3 zq1 F h3 as3 n3 S3 p3 df
 apply bc;intro ng
 obtain ⟨l0,l,y1,y2,y3,y4⟩:=zq1
 apply ng;clear ng
 induction f with
 | nx=>have df:F = .next:=df; subst df; exact q h3 as3 n3 (S3.re m y3 y4) p3
 | ct=>exact ap y1
 | rt v=>exact ap y1
 | bk=>exact ap y1
theorem Mw {n0:Nat} {r0:Nat} (H:ay w ρ O hk r0) {bs:List Stmt} {s s':St} {vc:VC} {m:List Nat} {sc:Scope} {v:AV} (hsc:env.scope=sc) (e:(zX w.params hk n0 sc bs s).vc m (.rt v) s'=vc) {h:Heap} {n:Nat} {as:List Addr} {Q:Flow->Shared->Prop} {E:Value->Shared->Prop} (R:Room A (n0 + r0))
  (S:SR w ρ O G env h s as) (y:vc.den ρ ρ')
  (q:∀V h' as' n',SR w ρ' O G env h' s' (m.map fun j=>as'.getD j 0)->Pre as as'->Dn ρ' (m.map fun j=>as'.getD j 0) v V->Q (.ret V) ⟨h',gs,dr,n',os⟩):wpAny (model pr w) A (execs bs env) Q E ⟨h,gs,dr,n,os⟩:=by
 apply bc;intro ng
 subst hsc
 apply ng;clear ng
 rw [<- e] at y
 refine Fc H rfl R S (Tr.mono ?_ (cU y))
 rintro f s3 zq2 F h3 as3 n3 S3 p3 df
 apply bc;intro ng
 obtain ⟨l0,l,y1,y2,y3,y4⟩:=zq2
 apply ng;clear ng
 induction f with
 | nx=>exact ap y1
 | ct=>exact ap y1
 | bk=>exact ap y1
 | rt u =>
  apply bc;intro ng
  obtain ⟨V,rfl,dv⟩:=df
  apply ng;clear ng
  exact q V h3 _ n3 (S3.re m y3 y4) p3 (bT (dF rfl) y1 y2 dv)
theorem NP {n0:Nat} {r0:Nat} (H:ay w ρ O hk r0) {e:Expr} {s s':St} {vc:VC} {m:List Nat} {sc:Scope} {v:AV} (hsc:env.scope=sc) (ev:(DG w.params hk n0 sc e s).vc m (.rt v) s'=vc) {h:Heap} {n:Nat} {as:List Addr} {Q:Value->Shared->Prop} {E:Value->Shared->Prop} (R:Room A (n0 + r0))
  (S:SR w ρ O G env h s as) (y:vc.den ρ ρ')
  (q:∀V h' as' n',SR w ρ' O G env h' s' (m.map fun j=>as'.getD j 0)->Pre as as'->Dn ρ' (m.map fun j=>as'.getD j 0) v V->Q V ⟨h',gs,dr,n',os⟩):wpAny (model pr w) A (eval e env) Q E ⟨h,gs,dr,n,os⟩:=by
 apply bc;intro ng
 subst hsc
 apply ng;clear ng
 rw [<- ev] at y
 have y:=cU y
 unfold DG at y
 refine (fM H n0).E R y S fun u V s3 h3 as3 n3 y S3 p3 du=>?_
 apply bc;intro ng
 obtain ⟨l0,l,y1,y2,y3,y4⟩:=y
 apply ng;clear ng
 exact q V h3 _ n3 ((S3.pcs (pc:=[]) fun zw m=>nomatch m).re m y3 y4) p3 (bT (dF rfl) y1 y2 du)
theorem MB {n0:Nat} {r0:Nat} (H:ay w ρ O hk r0) {f:Addr} {args:List AV} {ob ob':List AO} {vc:VC} {m:List Nat} {v:AV} (e:(sx w.params hk n0 f args ob).vc m (.rt v) ⟨[],[],ob',[]⟩=vc) {h:Heap} {n:Nat} {as:List Addr} {Us:List Value} {Q:Value->Shared->Prop} {E:Value->Shared->Prop} (R:Room A (n0 + r0))
  (S:Co w ρ O G h ob [] as) (da:All2 (Dn ρ as) args Us) (y:vc.den ρ ρ')
  (q:∀V h' as' n',Co w ρ' O G h' ob' [] (m.map fun j=>as'.getD j 0)->Pre as as'->Dn ρ' (m.map fun j=>as'.getD j 0) v V->Q V ⟨h',gs,dr,n',os⟩):wpAny (model pr w) A (call (.ref f) Us) Q E ⟨h,gs,dr,n,os⟩:=by
 rw [<- e] at y
 refine Hl H rfl R S da (Tr.mono ?_ (cU y))
 rintro f s3 zq3 u V h3 as3 n3 zq4 C3 p3 du
 apply bc;intro ng
 obtain ⟨l0,l,y1,y2,y3,y4⟩:=zq3
 obtain rfl:=zq4
 apply ng;clear ng
 exact q V h3 _ n3 (C3.re (s':=⟨[],[],ob',[]⟩) m y3 y4) p3 (bT (dF rfl) y1 y2 du)
end
noncomputable def IE.v? : IE->Option Nat | .v k=>some k | _=>none
noncomputable def IE.neg? : IE->Option IE | .neg k=>some k | _=>none
noncomputable def IE.abs? : IE->Option IE | .abs k=>some k | _=>none
noncomputable def Ob1.ie? : Ob1->Option (IE×IE) | .ie a b=>some (a,b) | _=>none
theorem dS {e:IE} {n:Nat} (h:e.v? = some n):e = .v n:=by induction e using IE.casesOn <;> first | exact congrArg IE.v (aG h) | exact ap h
theorem oR {e a:IE} (h:e.neg? = some a):e = .neg a:=by induction e using IE.casesOn <;> first | exact congrArg IE.neg (aG h) | exact ap h
theorem oW {e a:IE} (h:e.abs? = some a):e = .abs a:=by induction e using IE.casesOn <;> first | exact congrArg IE.abs (aG h) | exact ap h
theorem rQ {o:Ob1} {p:IE×IE} (h:o.ie? = some p):o = .ie p.1 p.2:=by induction o using Ob1.casesOn <;> first | exact congrArg (fun p:IE×IE=>Ob1.ie p.1 p.2) (aG h) | exact ap h
theorem cv {α:Type} {o:Option α} {p:α->Bool} (h:o.any p=true):∃a,o=some a/\p a=true:=by induction o with | none=>exact bG h | some a=>exact ⟨a,rfl,h⟩
noncomputable def jh (f:List Ob1->IE->IE->Bool):List Ob1->Bool | []=>true | o::r=>o.ie?.any (fun p=>f r p.1 p.2) && jh f r
theorem xf {ρ ρ':Rho} {f:List Ob1->IE->IE->Bool} (h:∀r a e,f r a e=true->a.den ρ=e.den ρ') {l:List Ob1} (w:jh f l=true):bD ρ ρ' l:=by
 induction l with
 | nil=>trivial
 | cons o r ih =>
  obtain ⟨p,e,w1⟩:=cv (ag w)
  refine aa (rQ e) ?_
  exact bD.cons.mpr ⟨h _ _ _ w1,ih (au w)⟩
noncomputable def B2 (p:Nat->Nat->Bool) (_:List Ob1) (a e:IE):Bool:=match e.v? with
 | some j=>a.v?.any fun i=>p i j
 | none=>e.c?.any fun n=>a.c?.any fun m=>decide (m=n)
theorem AD {ρ ρ':Rho} {p:Nat->Nat->Bool} (h:∀i j,p i j=true->ρ.v i=ρ'.v j) (r:List Ob1) (a e:IE) (w:B2 p r a e=true):a.den ρ=e.den ρ':=by
 unfold B2 at w
 induction q:e.v? with
 | some j =>
  rw [q] at w
  obtain ⟨i,e1,w⟩:=cv w
  refine aa (dS q) (aa (dS e1) ?_); exact h i j w
 | none =>
  rw [q] at w
  obtain ⟨n,e1,w⟩:=cv w
  obtain ⟨m,e2,w⟩:=cv w
  refine aa (bO e1) (aa (bO e2) ?_); exact of_decide_eq_true w
theorem ir {ρ ρ':Rho} {p:Nat->Nat->Bool} (h:∀i j,p i j=true->ρ.v i=ρ'.v j) {l:List Ob1} (w:jh (B2 p) l=true):bD ρ ρ' l:=xf (AD h) w
theorem All2.flip {α β:Type} {R:α->β->Prop} {l:List α} {m:List β} (x:All2 R l m):All2 (fun b a=>R a b) m l:=by
 induction x with | nil=>exact .nil | cons h _ ih=>exact .cons h ih
theorem All2.of {α β:Type} {R:α->β->Prop} {l:List α}:∀{m:List β},l.length=m.length->(∀(i:Nat) a b,l[i]? = some a->m[i]? = some b->R a b)->All2 R l m:=by
 induction l with
 | nil=>intro m e _; induction m using List.casesOn with | nil=>exact .nil | cons _ _=>exact (Nat.noConfusion e)
 | cons u us ih =>
  intro m e k
  induction m using List.casesOn with
  | nil=>exact (Nat.noConfusion e)
  | cons b bs=>exact .cons (k 0 u b rfl rfl) (ih (Nat.succ.inj e) fun i u b e1 e2=>k (i + 1) u b e1 e2)
theorem oS {ρ ρ':Rho} {as as':List Addr} {g:Gr} {mp:Nat->Option Nat} (hm:Mp mp as as') {xs:List Addr} {os us:List AO} {l:List Ob1} (e:nT (fG mp) os us=some l) (ob:bD ρ ρ' l) (x:All2 (fun x u=>aN ρ as g x u) xs os):All2 (fun x u=>aN ρ' as' g x u) xs us :=
 (is (R:=fun u x=>aN ρ as g x u) (R':=fun u x=>aN ρ' as' g x u) (fun zw zw zw zw=>bI hm) e ob x.flip).flip
theorem jl {ρ ρ':Rho} {O:Opq} {as:List Addr} {ob:List AO} {h:Heap} {m:List Nat} {us:List AO} {l:List Ob1} {mp:Nat->Option Nat} (hm:Mp mp as (m.map fun j=>as.getD j 0)) (sz:as.length=ob.length) (hob:∀(i:Nat) o a,ob[i]? = some o->as[i]? = some a->aC ρ O as h a o) (e:cE mp ob m us=some l) (o:bD ρ ρ' l) (hf:us.all AO.isF=true) :
  All2 (fun b u=>aN ρ' (m.map fun j=>as.getD j 0) h.get? b u) (m.map fun j=>as.getD j 0) us:=by
 apply bc;intro ng
 obtain ⟨t1,t2⟩:=eK hm sz hob e o
 apply ng;clear ng
 refine All2.of ((List.length_map _).trans t1) fun i a u ea eu=>?_
 apply bc;intro ng
 obtain ⟨j,o',a',x1,x2,x3,x4,-⟩:=t2 i u eu
 apply ng;clear ng
 rw [List.getElem?_map,x1] at ea
 have ea:a'=a:=(bE x3).symm.trans (aG ea)
 exact ea▸x4.f (List.all_eq_true.mp hf u (List.mem_of_getElem? eu))
theorem uu {ρ ρ':Rho} {O:Opq} {as:List Addr} {ob:List AO} {h:Heap} {m:List Nat} {us:List AO} {l:List Ob1} {mp:Nat->Option Nat} (hm:Mp mp as (m.map fun j=>as.getD j 0)) (sz:as.length=ob.length) (hob:∀(i:Nat) o a,ob[i]? = some o->as[i]? = some a->aC ρ O as h a o) (e:cE mp ob m us=some l) (o:bD ρ ρ' l) :
  All2 (fun b u=>aC ρ' O (m.map fun j=>as.getD j 0) h b u) (m.map fun j=>as.getD j 0) us:=by
 apply bc;intro ng
 obtain ⟨t1,t2⟩:=eK hm sz hob e o
 refine ng (All2.of ((List.length_map _).trans t1) fun i a u ea eu=>?_)
 obtain ⟨j,o',a',x1,x2,x3,x4,-⟩:=t2 i u eu
 rw [List.getElem?_map,x1] at ea
 have ea:a'=a:=(bE x3).symm.trans (aG ea)
 exact ea▸x4
theorem DI {α:Type} {p:Prop} [Decidable p] {x y:α} (e:(if p then some x else none)=some y):p/\x=y:=by
 by_cases h:p
 ·exact ⟨h,aG ((if_pos h).symm.trans e)⟩
 ·exact ap ((if_neg h).symm.trans e)
theorem All2.hd {α β:Type} {R:α->β->Prop} {a:α} {b:β} {l:List α} {m:List β} (x:All2 R (a::l) (b::m)):R a b:=by cases x with | cons h _=>exact h
theorem All2.tl {α β:Type} {R:α->β->Prop} {a:α} {b:β} {l:List α} {m:List β} (x:All2 R (a::l) (b::m)):All2 R l m:=by cases x with | cons _ t=>exact t
theorem rq {Vs:List Value} {n:Int} {r:List Int} (x:IntsAre Vs (n::r)):∃t Us,Vs = .int n t::Us/\IntsAre Us r:=by cases x with | cons _ t h=>exact ⟨t,_,rfl,h⟩
theorem AM {Vs:List Value} (x:IntsAre Vs []):Vs = []:=by cases x; rfl
theorem jz {Vs:List Value} {a b:Int} (x:IntsAre Vs [a,b]):∃t u,Vs = [.int a t,.int b u] :=
 let ⟨t,_,e,h⟩:=rq x; let ⟨u,_,e1,h1⟩:=rq h; ⟨t,u,e.trans (congrArg (Value.int a t :: ·) (e1.trans (congrArg (Value.int b u :: ·) (AM h1))))⟩
theorem dK {ρ:Rho} {as:List Addr}:∀{es:List IE} {Vs:List Value},All2 (Dn ρ as) (es.map .int) Vs->IntsAre Vs (es.map (IE.den ρ)):=by
 intro es
 induction es with
 | nil=>intro Vs x; refine aa x.n ?_; exact .nil
 | cons e r ih =>
  intro Vs x
  apply bc;intro ng
  obtain ⟨b,m,hV,⟨t,ht⟩,x⟩:=x.c
  apply ng;clear ng
  refine aa hV (aa ht ?_); exact .cons _ _ (ih x)
theorem cA {ρ:Rho} {as:List Addr} {i:Nat} {V:Value} {x:Addr} (d:Dn ρ as (.loc i) V) (e:as[i]? = some x):V = .ref x:=let ⟨_,e1,e2⟩:=d; e2.trans (congrArg Value.ref (aG (e1.symm.trans e)))
theorem sV {ρ:Rho} {as:List Addr} {n:Int} {i:Nat} {q:Int×Value} {x:Addr} (d:Kv ρ as (n,.loc i) q) (e:as[i]? = some x):q=(n,.ref x):=by
 obtain ⟨d1,d2⟩:=d
 obtain ⟨q1,q2⟩:=q
 have d1:n=q1:=d1
 exact aa (Eq.symm d1) (aa (show q2=_ from cA d2 e) rfl)
section
variable {w:World} {O:Opq} {A:Around} {gs:Array GenState} {dr:Drawn} {os:OsState} {G:Gr} {env:Env}
section
variable {ρ ρ':Rho} {s s':St} {h:Heap} {n:Nat} {as as2:List Addr} {hk:Hk} {m:List Nat}
theorem cW {α:Type} {M:Model} {A:Around} {m:Sem α} {Q:α->Shared->Prop} {E:Value->Shared->Prop} {s:Shared} (f:∀Q' E':_->Shared->Prop,(∀v s,Q v s->Q' v s)->(∀v s,E v s->E' v s)->wpAny M A m Q' E' s):wpAny M A m Q E s:=f Q E (fun zw zw h=>h) fun zw zw h=>h
theorem di {as as':List Addr} (p:Pre as as'):∀{m:List Nat},m.all (fun j=>Nat.ble (j + 1) as.length)=true->(m.map fun j=>as'.getD j 0)=m.map fun j=>as.getD j 0
 | [],_=>rfl
 | j::m,h=>by
  have hj:j < as.length:=Nat.le_of_ble_eq_true (ag h)
  refine aa List.map_cons (aa List.map_cons (aa (di p (au h)) ?_))
  refine congrArg (· :: _) ?_
  let ⟨t,e⟩:=p
  exact aa e (aa (List.getD_eq_getElem?_getD) (aa (List.getD_eq_getElem?_getD) (aa (List.getElem?_append_left hj) rfl)))
theorem SR.same {G':Gr} {env':Env} {h':Heap} {ρ':Rho} {O':Opq} {as':List Addr} (S:SR w ρ O G env h s as) (S':SR w ρ' O' G' env' h' s' as') (p:Pre as as') (e:s.ob.length=s'.ob.length):as'=as:=by
 let ⟨t,ht⟩:=p
 have l1:=S.sz; have l2:=S'.sz
 rw [ht,List.length_append,<- e,<- l1] at l2
 rw [ht,List.length_eq_zero_iff.mp (Nat.add_left_cancel (k:=0) l2),List.append_nil]
theorem _root_.Mine.Pre.eq {a b:List Addr} (p:Pre a b) (l:b.length=a.length):b=a:=by
 let ⟨t,ht⟩:=p
 rw [ht,List.length_append] at l
 rw [ht,List.length_eq_zero_iff.mp (Nat.add_left_cancel (k:=0) l),List.append_nil]
theorem FR {n0 r0:Nat} (H:ay w ρ O hk r0) {e:Expr} {vc:VC} {sc:Scope} {v:AV} (hsc:env.scope=sc) (ev:(DG w.params hk n0 sc e s).vc m (.rt v) s'=vc) {Q:Value->Shared->Prop} {E:Value->Shared->Prop} (R:Room A (n0 + r0)) (S:SR w ρ O G env h s as) (hm:m.all (fun j=>Nat.ble (j + 1) as.length)=true) (ha:(m.map fun j=>as.getD j 0)=as2) (y:vc.den ρ ρ')
  (q:∀V h' n',SR w ρ' O G env h' s' as2->Dn ρ' as2 v V->Q V ⟨h',gs,dr,n',os⟩):wpAny (model pr w) A (eval e env) Q E ⟨h,gs,dr,n,os⟩ :=
 NP H hsc ev R S y fun V h' as' n' S' p dv=>q V h' n' (ha▸di p hm▸S') (ha▸di p hm▸dv)
theorem tZ {i:Nat} {V:Value} {x:Addr} (d:Dn ρ as (.loc i) V) (e:as[i]? = some x):V = .ref x:=let ⟨_,e1,e2⟩:=d; e2.trans (congrArg Value.ref (aG (e1.symm.trans e)))
end
theorem vF {d:Nat} (hR:Room A d) {x:Str} {px:Pos} {body:List Stmt} {m j:Nat} {l it:Addr} {Vs:List Value} {as:List Addr} (hl:At G l (.lst Vs)) (hj:as[j]? = some l) (hm:as[m]? = some it) (rf:Nat->Rho) (sf:Nat->St) (em:∀i,(sf i).ob[m]? = some (.lit j i)) {RR:Result->Shared->Prop}
  (turn:∀i h n V,Vs[i]? = some V->SR w (rf i) O G env h { sf i with ob:=(sf i).ob.set m (.lit j (i + 1)) } as->∀(Q:Flow->Shared->Prop) (E1 E2:Value->Shared->Prop),
   (∀F h' n',(F = .next\/F = .cont)->SR w (rf (i + 1)) O G env h' (sf (i + 1)) as->Q F ⟨h',gs,dr,n',os⟩)->
   wpAny (model pr w) A (storeName env x V) (fun zw s₂=>wpAny (model pr w) A (execs body env) Q E1 s₂) E2 ⟨h,gs,dr,n,os⟩)
  (done:∀h n,SR w (rf Vs.length) O G env h { sf Vs.length with ob:=(sf Vs.length).ob.set m .dead } as->RR (.ok .next) ⟨h,gs,dr,n,os⟩)
  {h:Heap} {n:Nat} (S0:SR w (rf 0) O G env h (sf 0) as) :
  codeAny (model pr w) A (.forLoop (.Name x px) (.ref it) body [] env) RR ⟨h,gs,dr,n,os⟩:=by
 refine codeAny_forLoop (fun k st=>∃i h n,k + i=Vs.length/\st=⟨h,gs,dr,n,os⟩/\SR w (rf i) O G env h (sf i) as) (fun k st I=>?_) Vs.length ⟨0,h,n,rfl,rfl,S0⟩
 apply bc;intro ng
 obtain ⟨i,h,n,hk,rfl,S⟩:=I
 obtain ⟨it',a1,⟨l',a2,a3⟩,-⟩:=S.get (em i)
 rw [<- show it=it' from aG (hm.symm.trans a1),<- show l=l' from aG (hj.symm.trans a2)] at a3
 apply ng;clear ng
 have hli:h.IsList l Vs.toArray:=hl.le fun o e=>S.kp _ _ e
 by_cases hi:i < Vs.length
 ·refine wpAny_pyNext_list_item (s:=⟨h,gs,dr,n,os⟩) a3 hli (x:=Vs[i]) (by refine aa (List.getElem?_toArray) ?_; exact List.getElem?_eq_getElem hi) fun h' hit hs=>?_
  induction k using Nat.casesOn with
  | zero=>exact absurd ((Nat.zero_add i).symm.trans hk) (Nat.ne_of_lt hi)
  | succ k =>
  refine wpAny_assign_Name (turn i h' n Vs[i] (List.getElem?_eq_getElem hi) (S.obj (em i) rfl hm hs ⟨l,hj,hit⟩) _ _ _ fun F h2 n2 hF S2=>?_)
  have z:∃m,m < k + 1/\∃i h n,m + i=Vs.length/\(⟨h2,gs,dr,n2,os⟩:Shared)=⟨h,gs,dr,n,os⟩/\SR w (rf i) O G env h (sf i) as:=⟨k,Nat.lt_succ_self k,i + 1,h2,n2,((Nat.add_assoc k 1 i).trans (congrArg (k + ·) (Nat.add_comm 1 i))).symm.trans hk,rfl,S2⟩
  induction hF with
  | inl e=>refine aa e ?_; exact z
  | inr e=>refine aa e ?_; exact z
 ·have hi':i=Vs.length:=Nat.le_antisymm (hk▸Nat.le_add_left i k) (Nat.le_of_not_lt hi)
  rw [hi'] at S a3
  refine wpAny_pyNext_list_end (s:=⟨h,gs,dr,n,os⟩) hR.hd a3 hli (by refine aa (List.getElem?_toArray) ?_; exact List.getElem?_eq_none (Nat.le_refl _)) fun h' hs=>?_
  exact wpAny_execs_nil (done h' n (S.obj' (o':=.dead) (em _) rfl hm hs trivial))
end
section
set_option backward.match.sparseCases false
def hA (g:Gr) (t:Addr) (ns:List Int):Prop:=∃Vs,IntsAre Vs ns/\At g t (.tup Vs)
def ni (w:World) (g:Gr) (d:Addr):Prop:=∃t1 t2 t3,eT g d [(97,.ref t1),(98,.ref t2),(99,.ref t3)]/\hA g t1 [5,7,2,0,0,0]/\hA g t2 [11,3,0,0,0,0]/\hA g t3 [4,1,9,0,0,0]
theorem ni.ex {w:World} {g:Gr} {d:Addr} (x:ni w g d):∃o,g d=some o:=let ⟨_,_,_,⟨_,o,e,_⟩,_⟩:=x; ⟨o,e⟩
noncomputable def OG (w:World) (g:Gr):Opq:=⟨g,fun k a=>k=0/\ni w g a,fun a h=>by omega,fun a h=>by omega⟩
noncomputable def tY:AO:=.ns [(S' "skew_char",.any),(S' "hyphen_char",.any),(S' "edge_start",.any),(S' "boundary",.any),(S' "kerns",.any),(S' "program",.any),(S' "chars",.loc 2),(S' "params",.any),(S' "check",.any),(S' "design",.any),(S' "size",.any),(S' "name",.any),(S' "number",.int (.c 1))]
def aT (w:World) (g:Gr) (F:List Addr):Prop:=∃f0 f1 f2,F = [f0,f1,f2]/\aN (dy []) F g f0 tY/\aN (dy []) F g f1 (.inst 822 0)/\ni w g f2
structure Items (g:Gr) (F:List Addr) (a:Addr) (Vs:List Value) (nds:List Nd):Prop where
 list:At g a (.lst Vs)
 nodes:All2 (fun V nd=>∃x,V = .ref x/\bP g F x nd/\nd.ok) Vs nds
noncomputable def Tot.zero:Tot:=⟨0,0,0,0,0,0,0,0,0,0,0⟩
noncomputable def ad (nds:List Nd):Tot:=nds.foldl Tot.add Tot.zero
theorem qK {nds:List Nd} {i:Nat} {nd:Nd} (h:nds[i]? = some nd):ad (nds.take (i + 1))=(ad (nds.take i)).add nd:=by
 unfold ad
 refine aa List.take_add_one (aa h ?_)
 simp
noncomputable def ax:Expr->Expr | .Call f _ _ _=>f | e=>e
noncomputable def bq:Expr->Expr | .Call _ (a::_) _ _=>a | e=>e
noncomputable def cf:Expr->Pos | .Call _ _ _ p=>p | e=>e.pos
noncomputable def ca:Expr->Expr | .Attribute o _ _=>o | .Subscript o _ _=>o | e=>e
noncomputable def d6:Expr->Pos | .Attribute _ _ p=>p | .Subscript _ _ p=>p | e=>e.pos
noncomputable def jK:Expr->Expr | .Subscript _ i _=>i | e=>e
noncomputable def MH:Expr->Expr | .Slice _ (some u) _ _=>u | e=>e
noncomputable def NC:Expr->Pos | .Slice _ _ _ p=>p | e=>e.pos
noncomputable def iU (i:Nat):Expr->Expr | .BoolOp _ l _=>l.getD i (.Constant .none 0 default) | e=>e
noncomputable def uU:Expr->Pos | .BoolOp _ _ p=>p | e=>e.pos
noncomputable def HM:Expr->Expr | .Compare a _ _ _=>a | e=>e
noncomputable def FZ:Expr->Expr | .Compare _ _ (b::_) _=>b | e=>e
noncomputable def cg:Stmt->Expr | .Expr e _=>e | .Assign _ e _=>e | .While t _ _ _=>t | .If t _ _ _=>t | .Return (some e) _=>e | .For _ it _ _ _=>it | _=>.Constant .none 0 default
noncomputable def ug:Stmt->List Stmt | .While _ b _ _=>b | .If _ b _ _=>b | .For _ _ b _ _=>b | _=>[]
noncomputable def rd:Stmt->Pos | .Expr _ p=>p | .Assign _ _ p=>p | .While _ _ _ p=>p | .If _ _ _ p=>p | .Return _ p=>p | .For _ _ _ _ p=>p | _=>default
noncomputable def CA (P:Params) (a:Addr):Stmt:=(al P a).getD 0 (.Pass default)
noncomputable def cQ (P:Params) (a:Addr):Expr:=ca (cg (CA P a))
noncomputable def aJ:Expr->List Expr | .Call _ l _ _=>l | _=>[]
noncomputable def Ay (a:Addr):Nat:=if a == 763 then 0 else if a == 770 then 1 else 2
theorem Bi (P:Params):∀a,(a == 763 || a == 770 || a == 777)=true->a=763\/a=770\/a=777:=fun a h=>by
 simp only [Bool.or_eq_true,beq_iff_eq] at h
 rcases h with (h | h) | h
 ·exact .inl h
 ·exact .inr (.inl h)
 ·exact .inr (.inr h)
theorem wO (P:Params) (a:Addr) (h:a=763\/a=770\/a=777):al P a = [.Return (some (.Subscript (.Call (.Attribute (ca (ax (cQ P a))) (S' "get") (d6 (ax (cQ P a)))) [(aJ (cQ P a)).getD 0 (cQ P a),(aJ (cQ P a)).getD 1 (cQ P a)] [] (cf (cQ P a))) (jK (cg (CA P a))) (d6 (cg (CA P a))))) (rd (CA P a))]:=by rcases h with rfl | rfl | rfl <;> kernel_rfl
theorem F3 (P:Params) (a:Addr) (h:a=763\/a=770\/a=777):dN P a=some (aY P a):=by rcases h with rfl | rfl | rfl <;> kernel_rfl
theorem yv (P:Params) (e:IE) (a:Addr) (h:a=763\/a=770\/a=777):aP (aY P a) [.loc 1,.int e]=some [(S' "self",.loc 1),(S' "code",.int e)]:=by rcases h with rfl | rfl | rfl <;> kernel_rfl
noncomputable def pJ (e:IE):St:=⟨[(S' "code",.int e),(S' "self",.loc 1)],[],bj,[]⟩
theorem Ef (P:Params) (e:IE) (a:Addr) (h:a=763\/a=770\/a=777):(⟨[(S' "self",AV.loc 1),(S' "code",.int e)].reverse.filter (fun x=>decide ((aY P a).scope.names.lookup x.1=some .local)),(ae (aY P a).scope.names).zip ((List.range (ae (aY P a).scope.names).length).map (bj.length + ·)),bj++(ae (aY P a).scope.names).map (fun n=>.cell ([(S' "self",AV.loc 1),(S' "code",.int e)].reverse.lookup n)),[]⟩:St)=pJ e:=by rcases h with rfl | rfl | rfl <;> kernel_rfl
theorem IW (P:Params) (e:IE) (a:Addr) (h:a=763\/a=770\/a=777) (k:AV->St->Tr):(run P aA 2).E (bm P a) (ca (ax (cQ P a))) (pJ e) k=k (.loc 2) (pJ e):=by rcases h with rfl | rfl | rfl <;> kernel_rfl
theorem J3 (P:Params) (e:IE) (a:Addr) (h:a=763\/a=770\/a=777) (k:AV->St->Tr):(run P aA 2).E (bm P a) ((aJ (cQ P a)).getD 0 (cQ P a)) (pJ e) k=k (.int e) (pJ e):=by rcases h with rfl | rfl | rfl <;> kernel_rfl
theorem Hc (P:Params) (e:IE) (a:Addr) (h:a=763\/a=770\/a=777) (k:AV->St->Tr):(run P aA 2).E (bm P a) ((aJ (cQ P a)).getD 1 (cQ P a)) (pJ e) k=k (.glb (.ref 682)) (pJ e):=by rcases h with rfl | rfl | rfl <;> kernel_rfl
theorem KB (P:Params) (e:IE) (a:Addr) (h:a=763\/a=770\/a=777) (k:AV->St->Tr):(run P aA 2).E (bm P a) (jK (cg (CA P a))) (pJ e) k=k (.int (.c (Ay a))) (pJ e):=by rcases h with rfl | rfl | rfl <;> kernel_rfl
theorem LA (P:Params) (a:Addr) (h:a=763\/a=770\/a=777):((d6 (ax (cQ P a))).endLine == (cf (cQ P a)).line)=true/\cr (ca (ax (cQ P a)))=false/\aK ((aJ (cQ P a)).getD 0 (cQ P a))=false/\aK ((aJ (cQ P a)).getD 1 (cQ P a))=false/\cu (jK (cg (CA P a)))=false:=by
 rcases h with rfl | rfl | rfl <;> exact ⟨by kernel_rfl,by kernel_rfl,by kernel_rfl,by kernel_rfl,by kernel_rfl⟩
theorem B1 {e:Int} (h1:97<=e) (h2:e<=99) (t1 t2 t3:Addr):∃(t:Addr) (ns:List Int),valueAt [(97,Value.ref t1),(98,.ref t2),(99,.ref t3)] e=some (.ref t)/\((t=t1/\ns = [5,7,2,0,0,0])\/(t=t2/\ns = [11,3,0,0,0,0])\/(t=t3/\ns = [4,1,9,0,0,0]))/\ns[0]? = some (fW e)/\ns[1]? = some (fH e)/\ns[2]? = some (fD e):=by
 have:e=97\/e=98\/e=99:=by (first | lia | omega)
 rcases this with rfl | rfl | rfl
 ·exact ⟨t1,[5,7,2,0,0,0],rfl,.inl ⟨rfl,rfl⟩,rfl,rfl,rfl⟩
 ·exact ⟨t2,[11,3,0,0,0,0],rfl,.inr (.inl ⟨rfl,rfl⟩),rfl,rfl,rfl⟩
 ·exact ⟨t3,[4,1,9,0,0,0],rfl,.inr (.inr ⟨rfl,rfl⟩),rfl,rfl,rfl⟩
theorem Br {w:World} {ρ:Rho} {g:Gr} {A:Around} {gs:Array GenState} {dr:Drawn} {os:OsState} {h:Heap} {n:Nat} {f x a0 a2:Addr} {ie:IE} {t:Tok} (hf:ρ.f=ff) (hf3:f=763\/f=770\/f=777) (b1:97<=ie.den ρ) (b2:ie.den ρ<=99) (C0:Co w ρ (OG w g) h.get? h bj [] [a0,x,a2]) (R:Room A 3) {Q:Value->Shared->Prop} {E:Value->Shared->Prop}
  (q:∀t h' n',h.StaysIn h'->Q (.int (ρ.f (IP f) (ie.den ρ) 0 0) t) ⟨h',gs,dr,n',os⟩):wpAny (model pr w) A (call (.ref f) [.ref x,.int (ie.den ρ) t]) Q E ⟨h,gs,dr,n,os⟩:=by
 have kg:∀a o,g a=some o->h.get? a=some o:=C0.og
 apply bc;intro ng
 obtain ⟨p1,p2,p3,p4,p5⟩:=LA w.params f hf3
 apply ng;clear ng
 refine go (R.le (m:=2 + 1) (by (first | decide | lia | omega))) (F3 w.params f hf3) (yv w.params ie f hf3) C0 (.cons ⟨x,rfl,rfl⟩ (.cons ⟨t,rfl⟩ .nil)) fun A' env h1 n1 as1 R1 esc q1 S1 E'=>?_
 refine cW fun Q' E' kq zw=>?_
 rw [Ef w.params ie f hf3] at S1
 replace esc:env.scope=bm w.params f:=esc
 have RN:Snd w ρ (OG w g) 2 (run w.params aA 2):=fM (r0:=0) ay.no 2
 have yl:∀{v:AV} {s:St},(Tr.leaf (.rt v) s).ok ρ fun f' s'=>f' = .rt v/\s'=s:=⟨rfl,rfl⟩
 have ev:∀{e':Expr} {v:AV} {h2:Heap} {n2:Nat} {as2:List Addr} {Q':Value->Shared->Prop} {E'':Value->Shared->Prop},(∀k,(run w.params aA 2).E (bm w.params f) e' (pJ ie) k=k v (pJ ie))->SR w ρ (OG w g) h.get? env h2 (pJ ie) as2->
   (∀V h3 as3 n3,SR w ρ (OG w g) h.get? env h3 (pJ ie) as3->Pre as2 as3->Dn ρ as3 v V->Q' V ⟨h3,gs,dr,n3,os⟩)->wpAny (model pr w) A' (eval e' env) Q' E'' ⟨h2,gs,dr,n2,os⟩:=by
  intro e' v h2 n2 as2 Q' E'' he S2 q2
  refine RN.E (k:=fun v s=>.leaf (.rt v) s) R1 (by rw [esc,he]; exact yl) S2 fun u V s3 h3 as3 n3 y3 S3 p3 du=>?_
  apply bc;intro ng
  obtain ⟨y4,y5⟩:=y3
  cases y4
  apply ng;clear ng
  rw [y5] at S3
  exact q2 V h3 as3 n3 S3 p3 du
 refine aa (show (aY w.params f).body=_ from wO w.params f hf3) ?_
 refine wpAny_execs_cons (wpAny_Return_some (Subscript_ ?_))
 show wpAny (model pr w) A' (do
  let ov <- attributeBase (ca (ax (cQ w.params f))) (S' "get") env (eval (ca (ax (cQ w.params f))) env)
  standAt (d6 (ax (cQ w.params f))).atName
  methodCall (ca (ax (cQ w.params f))) (S' "get") (d6 (ax (cQ w.params f))) (cf (cQ w.params f)) env ov (2 + 0) (backTo (cf (cQ w.params f)) (starEach [(aJ (cQ w.params f)).getD 0 (cQ w.params f),(aJ (cQ w.params f)).getD 1 (cQ w.params f)] env)) []) _ _ _
 refine aa (eR p2) ?_
 refine wpAny_bind (ev (IW w.params ie f hf3) S1 fun V h2 as2 n2 S2 q2 dv=>?_)
 apply bc;intro ng
 obtain ⟨dd,ed,rfl⟩:=dv
 obtain ⟨-,-,t1,t2,t3,D,ta,tb,tc⟩:=(S2.ob 2 _ dd rfl ed).1
 apply ng;clear ng
 have DO:∀h3:Heap,(∀a o,h.get? a=some o->h3.get? a=some o)->h3.DictOf (intKind pr w) dd [(97,.ref t1),(98,.ref t2),(99,.ref t3)]:=fun h3 k=>by
  apply bc;intro ng
  obtain ⟨-,o,eo,z⟩:=D
  obtain ⟨es,ep,r⟩:=z w
  apply ng;clear ng
  exact ⟨o,es,ep,k _ _ (kg _ _ eo),r⟩
 have D2:=DO h2 S2.kp
 refine wpAny_bind (wpAny_standAt ?_)
 have eb:backTo (cf (cQ w.params f)) (starEach [(aJ (cQ w.params f)).getD 0 (cQ w.params f),(aJ (cQ w.params f)).getD 1 (cQ w.params f)] env) = [(false,eval ((aJ (cQ w.params f)).getD 0 (cQ w.params f)) env),(false,eval ((aJ (cQ w.params f)).getD 1 (cQ w.params f)) env)]:=by
  refine aa (aV p3) (aa (aV p4) ?_); rfl
 refine aa eb ?_
 unfold methodCall
 refine aa (show methodCallForm (2 + 0) [(false,eval ((aJ (cQ w.params f)).getD 0 (cQ w.params f)) env),(false,eval ((aJ (cQ w.params f)).getD 1 (cQ w.params f)) env)] []=true from rfl) ?_
 refine wpAny_bind (wpAny_holding (getMethod_builtin (s:=⟨h2,gs,dr,n2,os⟩) D2.typeIs PySem.F.plainAttrs_dict PySem.F.slot_dict_get PySem.F.type_dict_get D2.mapOf.noDict ?_))
 refine wpAny_bind (wpAny_of_eq (show methodCallPos true (ca (ax (cQ w.params f))) env (d6 (ax (cQ w.params f))) (cf (cQ w.params f))=pure (cf (cQ w.params f)) from ?_) ?_)
 ·unfold methodCallPos; refine aa p1 ?_; simp
 refine wpAny_dict_get2 (knd:=intKind pr w) D.1 (ev (J3 w.params ie f hf3) S2 fun V h3 as3 n3 S3 q3 dv=>ev (Hc w.params ie f hf3) S3 fun U h4 as4 n4 S4 q4 du=>?_)
 apply bc;intro ng
 obtain ⟨tk,rfl⟩:=dv
 apply ng;clear ng
 refine ⟨ie.den ρ,_,intKind_is _ _ _ _,(DO h4 S4.kp).mapOf,?_⟩
 apply bc;intro ng
 obtain ⟨tr,ns,v1,v2,v3⟩:=B1 b1 b2 t1 t2 t3
 apply ng;clear ng
 refine aa v1 ?_
 have TI:hA g tr ns:=by
  rcases v2 with ⟨rfl,rfl⟩ | ⟨rfl,rfl⟩ | ⟨rfl,rfl⟩
  ·exact ta
  ·exact tb
  ·exact tc
 apply bc;intro ng
 obtain ⟨Vs,vi,va⟩:=TI
 apply ng;clear ng
 show wpAny _ _ _ _ _ ⟨h4,gs,dr,n4 + 1,os⟩
 refine ev (KB w.params ie f hf3) S4 fun X h5 as5 n5 S5 q5 dx=>?_
 apply bc;intro ng
 obtain ⟨ux,rfl⟩:=dx
 have l5:IsTup h5 tr Vs.toArray:=va.le fun o e=>S5.kp _ _ (kg _ _ e)
 have key:∃m:Int,ns[Ay f]? = some m/\m=ρ.f (IP f) (ie.den ρ) 0 0:=by
  refine aa hf ?_
  rcases hf3 with rfl | rfl | rfl
  ·exact ⟨_,v3.1,rfl⟩
  ·exact ⟨_,v3.2.1,rfl⟩
  ·exact ⟨_,v3.2.2,rfl⟩
 obtain ⟨m,m1,m2⟩:=key
 obtain ⟨tm,xm⟩:=vi.get _ _ m1
 apply ng;clear ng
 have li:Ay f < Vs.length:=(List.getElem?_eq_some_iff.mp xm).1
 have l3:Ay f < 3:=by unfold Ay; split; (first | decide | lia | omega); split <;> (first | decide | lia | omega)
 refine tail_any (s:=⟨h5,gs,dr,n5,os⟩) (l5.typeIs (s:=⟨h5,gs,dr,n5,os⟩)) slot_tuple_getitem.lookup (getItem_tuple (s:=⟨h5,gs,dr,n5,os⟩) (k:=(Ay f:Int)) (j:=Ay f) l5 (by (first | decide | lia | omega)) (by (first | decide | lia | omega)) (by unfold seqIndex?; simp; (first | decide | lia | omega)) (x:=.int m tm) (by simpa using xm) ?_) (dG p5 _ _)
 exact kq _ _ (m2▸q tm h5 n5 fun a o e=>S5.kp _ _ e)
theorem d9 {w:World} {ρ:Rho} {g:Gr} (hf:ρ.f=ff):ay w ρ (OG w g) xb 3:=by
 intro f args ob ces v ob' e hcs A gs dr os G h pc n as Us Q Er R S da q
 apply bc;intro ng
 obtain ⟨p,ep,e⟩:=az e
 obtain ⟨i,ei,e⟩:=az e
 obtain ⟨ie,eie,e⟩:=az e
 obtain ⟨hc,e⟩:=cS e
 cases e
 rw [ch ep,bM ei,cO eie] at da
 obtain ⟨b,b',hU,⟨x,ex,hx⟩,t,ht⟩:=da.two
 obtain ⟨l,e1,e2⟩:=cv (ag (au hc))
 have T:=uu (dF rfl) S.sz (fun i o a e e'=>(S.ob i o a e e').1) e1 (fZ (ρ:=ρ) e2)
 rw [aD (au (au hc))] at ex
 have C0:Co w ρ (OG w g) h.get? h bj [] [as.getD 0 0,x,as.getD 2 0]:=by
  refine aa (Eq.symm (bE ex)) ?_
  exact Co.all S.wd (fun a o z=>S.kp _ _ (S.og _ _ z)) (.cons ⟨T.hd,rfl⟩ (.cons ⟨T.tl.hd,rfl⟩ (.cons ⟨T.tl.tl.hd,rfl⟩ .nil)))
 rw [hU,hx,ht] at ng
 exact ng (Br hf (Bi w.params f (ag hc)) (hcs _ (.head _)) (hcs _ (.tail _ (.head _))) C0 R fun t h' n' k=>q _ h' as n' (S.stay k) .refl ⟨t,rfl⟩)
theorem gf {w:World} {g:Gr} {F rest:List Addr} {ρ:Rho} {h:Heap} (Fo:aT w g F):All2 (fun a o=>aC ρ (OG w g) (F++rest) h a o/\o.own=false) F bj:=by
 apply bc;intro ng
 obtain ⟨f0,f1,f2,rfl,h1,h2,h3⟩:=Fo
 apply ng;clear ng
 have key:∀{x:Addr} {o:AO},(fG (fun i=>some i) o o).any (fun l=>jh (B2 fun zw zw=>false) l)=true->aN (dy []) [f0,f1,f2] g x o->aN ρ ([f0,f1,f2]++rest) g x o:=by
  intro x o e y
  apply bc;intro ng
  obtain ⟨l,e1,e2⟩:=cv e
  refine ng (bI (mp:=fun i=>some i) (ρ:=dy []) (as:=[f0,f1,f2]) ?_ e1 (ir (fun zw zw h=>bG h) e2) y)
  intro i j e x ex; cases e; exact Pre.get ⟨_,rfl⟩ ex
 refine .cons ⟨key (by kernel_rfl) h1,rfl⟩ (.cons ⟨key (by kernel_rfl) h2,rfl⟩ (.cons ⟨⟨h3.ex,rfl,h3⟩,rfl⟩ .nil))
end
noncomputable def Cx (i:Nat) (a b c d e f g h w x y:IE):VC:=.ok [.ie (.c 1) (.c 1),.nat (i + 1) (i + 1),.ie a (.v 3),.ie b (.v 4),.ie c (.v 5),.ie d (.v 6),.ie e (.v 7),.ie f (.v 8),.ie g (.v 9),.ie h (.v 10),.ie (.add (.v 2) w) (.v 2),.ie (.max (.v 0) x) (.v 0),.ie (.max (.v 1) y) (.v 1)]
noncomputable def qX (i:Nat) (w x y:IE):VC:=Cx i (.v 3) (.v 4) (.v 5) (.v 6) (.v 7) (.v 8) (.v 9) (.v 10) w x y
noncomputable def rc (x:VC):VC:=(.req (.le (.c 97) (.v 11)) (.req (.le (.v 11) (.c 99)) x))
noncomputable def F2 (i:Nat) (a b c d:IE):VC :=
 .br (.eq (.v 15) (.c 3)) (Cx i a b c d (.v 7) (.v 8) (.v 9) (.add (.v 10) (.v 14)) (.v 11) (.c 0) (.c 0)) (.br (.eq (.v 15) (.c 2)) (Cx i a b c d (.v 7) (.v 8) (.add (.v 9) (.v 14)) (.v 10) (.v 11) (.c 0) (.c 0))
 (.br (.eq (.v 15) (.c 1)) (Cx i a b c d (.v 7) (.add (.v 8) (.v 14)) (.v 9) (.v 10) (.v 11) (.c 0) (.c 0)) (.br (.eq (.v 15) (.c 0)) (Cx i a b c d (.add (.v 7) (.v 14)) (.v 8) (.v 9) (.v 10) (.v 11) (.c 0) (.c 0)) .fail)))
theorem wU (P:Params) (i:Nat):pz P i .skp = .br (.eq (.v 13) (.c 3)) (F2 i (.v 3) (.v 4) (.v 5) (.add (.v 6) (.v 12))) (.br (.eq (.v 13) (.c 2)) (F2 i (.v 3) (.v 4) (.add (.v 5) (.v 12)) (.v 6))
 (.br (.eq (.v 13) (.c 1)) (F2 i (.v 3) (.add (.v 4) (.v 12)) (.v 5) (.v 6)) (.br (.eq (.v 13) (.c 0)) (F2 i (.add (.v 3) (.v 12)) (.v 4) (.v 5) (.v 6)) .fail))):=by kernel_rfl
theorem xL (P:Params) (i:Nat):pz P i .krn=qX i (.v 11) (.c 0) (.c 0):=by kernel_rfl
theorem sR (P:Params) (i:Nat):pz P i .box2=qX i (.v 11) (.sub (.v 12) (.v 14)) (.add (.v 13) (.v 14)):=by kernel_rfl
theorem vD (P:Params) (i:Nat):pz P i .rul=qX i (.v 11) (.c 0) (.c 0):=by kernel_rfl
theorem rE (P:Params) (i:Nat):pz P i .rul4=qX i (.v 11) (.c 0) (.c 4):=by kernel_rfl
theorem rR (P:Params) (i:Nat):pz P i .dsc0=qX i (.c 0) (.c 0) (.c 0):=by kernel_rfl
theorem xQ (P:Params) (i:Nat):pz P i .pen=qX i (.c 0) (.c 0) (.c 0):=by kernel_rfl
theorem vt (P:Params) (i:Nat):pz P i .mth=qX i (.v 11) (.c 0) (.c 0):=by kernel_rfl
theorem t4 (P:Params) (i:Nat):pz P i .box3=qX i (.v 11) (.sub (.v 12) (.v 14)) (.add (.v 13) (.v 14)):=by kernel_rfl
theorem vM (P:Params) (i:Nat):pz P i .pck=qX i (.v 11) (.sub (.v 12) (.v 14)) (.add (.v 13) (.v 14)):=by kernel_rfl
theorem wB (P:Params) (i:Nat):pz P i .chr=rc (rc (rc (qX i (.fn 1 (.v 11) (.c 0) (.c 0)) (.fn 2 (.v 11) (.c 0) (.c 0)) (.fn 3 (.v 11) (.c 0) (.c 0))))):=by kernel_rfl
theorem tw (P:Params) (i:Nat):pz P i .dsc1=rc (rc (rc (qX i (.fn 1 (.v 11) (.c 0) (.c 0)) (.max (.c 0) (.fn 2 (.v 11) (.c 0) (.c 0))) (.max (.c 0) (.fn 3 (.v 11) (.c 0) (.c 0)))))):=by kernel_rfl
theorem sv (P:Params) (i:Nat):pz P i .dsc2=rc (rc (rc (qX i (.add (.fn 1 (.v 11) (.c 0) (.c 0)) (.v 12)) (.max (.c 0) (.max (.fn 2 (.v 11) (.c 0) (.c 0)) (.c 0))) (.max (.c 0) (.max (.fn 3 (.v 11) (.c 0) (.c 0)) (.c 0)))))):=by kernel_rfl
noncomputable def MK (i:Nat):Option Nat:=if i < 3 then some i else some (i + 6)
theorem Ci (k:Nk):((nT (fG MK) (k.T 3 0) (k.T 9 11)).map (jh (B2 fun i j=>j == 11 + i)))=some true:=by induction k using Nk.casesOn <;> kernel_rfl
theorem l8 {g:Gr} {F as as2:List Addr} {nd:Nd} {ρ:Rho} (h2:All2 (fun x u=>aN (dy nd.a) (F++as2) g x u) as2 (nd.k.T 3 0)) (hl:as.length=9) (hF:as.take 3=F) (hρ:∀j,ρ.v (11 + j)=nd.a.getD j 0) :
  All2 (fun x u=>aN ρ (as++as2) g x u) as2 (nd.k.T 9 11):=by
 have t:=Ci nd.k
 apply bc;intro ng
 obtain ⟨l,e,gd⟩:=gR t
 apply ng;clear ng
 refine oS ?_ e (ir (fun i j z=>(hρ i).symm.trans (congrArg ρ.v (aD z).symm)) gd) h2
 intro i j e x ex
 unfold MK at e
 split at e
 ·rename_i hi
  cases e
  have hFl:F.length=3:=by rw [<- hF]; simp; (first | lia | omega)
  rw [List.getElem?_append_left (by (first | lia | omega))] at ex
  refine aa (List.getElem?_append_left (by (first | lia | omega))) ?_
  rw [<- hF,List.getElem?_take] at ex
  simpa [hi] using ex
 ·rename_i hi
  cases e
  have hFl:F.length=3:=by rw [<- hF]; simp; (first | lia | omega)
  rw [List.getElem?_append_right (by (first | lia | omega))] at ex
  refine aa (List.getElem?_append_right (by (first | lia | omega))) (aa hl (aa (show i + 6 - 9=i - F.length by (first | lia | omega)) ?_))
  exact ex
theorem kz {g:Gr} {F as:List Addr} {a:Addr} {nd:Nd} {ρ:Rho} (N:bP g F a nd) (hl:as.length=9) (hF:as.take 3=F) (hρ:∀j,ρ.v (11 + j)=nd.a.getD j 0) :
  ∃as2,as2[nd.k.last]? = some a/\All2 (fun x u=>aN ρ (as++as2) g x u) as2 (nd.k.T 9 11) :=
 let ⟨as2,h1,h2⟩:=N; ⟨as2,h1,l8 h2 hl hF hρ⟩
section
variable {t:Tot} {a b:List Int}
theorem NK:IE.den (aB t a) (.v 12)=a.getD 1 0:=rfl
theorem MW:IE.den (aB t a) (.v 13)=a.getD 2 0:=rfl
theorem MY:IE.den (aB t a) (.v 14)=a.getD 3 0:=rfl
theorem NG:IE.den (aB t a) (.v 15)=a.getD 4 0:=rfl
theorem NM {j:Nat}:(aB t a).v (11 + j)=a.getD j 0:=by
 show (t.l++a).getD (11 + j) 0=_
 unfold List.getD
 refine aa (List.getElem?_append_right (by simp [Tot.l])) ?_
 simp [Tot.l]
theorem NX {x:Int}:(aB t a).f 1 x 0 0=fW x:=rfl
theorem NY {x:Int}:(aB t a).f 2 x 0 0=fH x:=rfl
theorem NU {x:Int}:(aB t a).f 3 x 0 0=fD x:=rfl
theorem M1 {ρ:Rho} {a b:IE}:IE.den ρ (.mod a b)=a.den ρ % b.den ρ:=rfl
theorem Ny {ρ:Rho} {a b:IE}:IE.den ρ (.max a b)=max (a.den ρ) (b.den ρ):=rfl
theorem CF {ρ:Rho} {k:Nat} {a b c:IE}:IE.den ρ (.fn k a b c)=ρ.f k (a.den ρ) (b.den ρ) (c.den ρ):=rfl
theorem dC {ρ:Rho} {c:Int}:IE.den ρ (.c c)=c:=rfl
theorem MP {ρ ρ':Rho} {a b:IE}:Ob1.den ρ ρ' (.ie a b)=(a.den ρ=b.den ρ'):=rfl
theorem M5 {ρ ρ':Rho} {i:Nat}:Ob1.den ρ ρ' (.nat i i)=True:=eq_self i
theorem NR {ρ ρ':Rho} {c:CE} {a b:VC}:VC.den ρ ρ' (.br c a b)=((c.den ρ->a.den ρ ρ')/\(¬c.den ρ->b.den ρ ρ')):=rfl
theorem Nj {ρ ρ':Rho} {c:CE} {a:VC}:VC.den ρ ρ' (.req c a)=(c.den ρ/\a.den ρ ρ'):=rfl
theorem NS {ρ ρ':Rho} {l:List Ob1}:VC.den ρ ρ' (.ok l)=bD ρ ρ' l:=rfl
theorem Mh {ρ ρ':Rho}:VC.den ρ ρ' .fail=False:=rfl
theorem iS {ρ:Rho} {nd:Nd} {i:Nat} {x3 x4 x5 x6 x7 x8 x9 x10 w x y:IE} (a:x3.den ρ=t.s0 + nd.st 0/\x4.den ρ=t.s1 + nd.st 1/\x5.den ρ=t.s2 + nd.st 2/\x6.den ρ=t.s3 + nd.st 3) (b:x7.den ρ=t.r0 + nd.sh 0/\x8.den ρ=t.r1 + nd.sh 1/\x9.den ρ=t.r2 + nd.sh 2/\x10.den ρ=t.r3 + nd.sh 3)
  (c:(IE.add (.v 2) w).den ρ=t.n + nd.w) (d:(IE.max (.v 0) x).den ρ=max t.H nd.h) (e:(IE.max (.v 1) y).den ρ=max t.D nd.d):(Cx i x3 x4 x5 x6 x7 x8 x9 x10 w x y).den ρ (aB (t.add nd) []) :=
 ⟨rfl,rfl,a.1,a.2.1,a.2.2.1,a.2.2.2,b.1,b.2.1,b.2.2.1,b.2.2.2,c,d,e⟩
theorem cC {nd:Nd} {i:Nat} {w x y:IE} (a:∀k,nd.st k=0) (b:∀k,nd.sh k=0) (c:w.den (aB t nd.a)=nd.w) (d:x.den (aB t nd.a)=nd.h) (e:y.den (aB t nd.a)=nd.d):(qX i w x y).den (aB t nd.a) (aB (t.add nd) []):=by
 have z:∀{x:Int} {k:Int},x=x + nd.st k:=fun {x k}=>by rw [a]; exact (Int.add_zero x).symm
 have z':∀{x:Int} {k:Int},x=x + nd.sh k:=fun {x k}=>by rw [b]; exact (Int.add_zero x).symm
 exact iS (ρ:=aB t nd.a) ⟨z,z,z,z⟩ ⟨z',z',z',z'⟩ (congrArg (t.n + ·) c) (congrArg (max t.H ·) d) (congrArg (max t.D ·) e)
theorem gQ {s x a k:Int} (h:a=k):s + x=s + if a=k then x else 0:=congrArg (s + ·) (if_pos h).symm
theorem aO {s x a k k':Int} (h:a=k) (n:k≠k'):s=s + if a=k' then x else 0:=by rw [if_neg fun z=>n (h.symm.trans z),Int.add_zero]
theorem Ff {a:Int} (h:0<=a/\a<=3) (n3:¬a=3) (n2:¬a=2) (n1:¬a=1):a=0 :=
 have f:∀{a k:Int},a<=k + 1->¬a=k + 1->a<=k:=fun h n=>Int.le_of_lt_add_one (Int.lt_iff_le_and_ne.mpr ⟨h,n⟩)
 Int.le_antisymm (f (k:=0) (f (k:=1) (f (k:=2) h.2 n3) n2) n1) h.1
theorem kt {i:Nat} {x3 x4 x5 x6:IE} (h:0<=a.getD 4 0/\a.getD 4 0<=3) (q:x3.den (aB t a)=t.s0 + Nd.st ⟨.skp,a⟩ 0/\x4.den (aB t a)=t.s1 + Nd.st ⟨.skp,a⟩ 1/\x5.den (aB t a)=t.s2 + Nd.st ⟨.skp,a⟩ 2/\x6.den (aB t a)=t.s3 + Nd.st ⟨.skp,a⟩ 3) :
  (F2 i x3 x4 x5 x6).den (aB t a) (aB (t.add ⟨.skp,a⟩) []):=by
 refine ⟨fun (e:a.getD 4 0=3)=>iS q ⟨aO e ?_,aO e ?_,aO e ?_,gQ e⟩ rfl rfl rfl,fun n3=>⟨fun (e:a.getD 4 0=2)=>iS q ⟨aO e ?_,aO e ?_,gQ e,aO e ?_⟩ rfl rfl rfl,fun n2=>⟨fun (e:a.getD 4 0=1)=>iS q ⟨aO e ?_,gQ e,aO e ?_,aO e ?_⟩ rfl rfl rfl,
  fun n1=>⟨fun (e:a.getD 4 0=0)=>iS q ⟨gQ e,aO e ?_,aO e ?_,aO e ?_⟩ rfl rfl rfl,fun n0=>n0 (Ff h n3 n2 n1)⟩⟩⟩⟩ <;> decide
theorem yF (P:Params) {nd:Nd} {i:Nat} (ok:nd.ok):(pz P i nd.k).den (aB t nd.a) (aB (t.add nd) []):=by
 have z:∀k:Int,(0:Int)=0:=fun zw=>rfl
 match nd with
 | ⟨k,a⟩ =>
 induction k with
 | chr=>rw [wB]; exact ⟨ok.1,ok.2,ok.1,ok.2,ok.1,ok.2,cC z z rfl rfl rfl⟩
 | dsc1=>rw [tw]; exact ⟨ok.1,ok.2,ok.1,ok.2,ok.1,ok.2,cC z z rfl rfl rfl⟩
 | dsc2=>rw [sv]; exact ⟨ok.1,ok.2,ok.1,ok.2,ok.1,ok.2,cC z z rfl rfl rfl⟩
 | skp =>
  have h:0<=a.getD 4 0/\a.getD 4 0<=3:=ok.2.2
  rw [wU]
  refine ⟨fun (e:a.getD 2 0=3)=>kt h ⟨aO e ?_,aO e ?_,aO e ?_,gQ e⟩,fun n3=>⟨fun (e:a.getD 2 0=2)=>kt h ⟨aO e ?_,aO e ?_,gQ e,aO e ?_⟩,fun n2=>⟨fun (e:a.getD 2 0=1)=>kt h ⟨aO e ?_,gQ e,aO e ?_,aO e ?_⟩,
   fun n1=>⟨fun (e:a.getD 2 0=0)=>kt h ⟨gQ e,aO e ?_,aO e ?_,aO e ?_⟩,fun n0=>n0 (Ff ⟨ok.1,ok.2.1⟩ n3 n2 n1)⟩⟩⟩⟩ <;> decide
 | krn=>rw [xL]; exact cC z z rfl rfl rfl
 | box2=>rw [sR]; exact cC z z rfl rfl rfl
 | box3=>rw [t4]; exact cC z z rfl rfl rfl
 | pck=>rw [vM]; exact cC z z rfl rfl rfl
 | rul=>rw [vD]; exact cC z z rfl rfl rfl
 | rul4=>rw [rE]; exact cC z z rfl rfl rfl
 | dsc0=>rw [rR]; exact cC z z rfl rfl rfl
 | pen=>rw [xQ]; exact cC z z rfl rfl rfl
 | mth=>rw [vt]; exact cC z z rfl rfl rfl
end
noncomputable def M7:List (Str×AV):=[(S' "items",.loc 3),(S' "totals",.loc 7),(S' "height",.int (.v 0)),(S' "depth",.int (.v 1))]
noncomputable def wn (b:Nat):List AO:=[.lst [.int (.v 3),.int (.v 4),.int (.v 5),.int (.v 6)],.lst [.int (.v 7),.int (.v 8),.int (.v 9),.int (.v 10)],.ns [(S' "shrink",.loc (b + 1)),(S' "stretch",.loc b),(S' "natural",.int (.v 2))],.inst 309 (b + 2)]
noncomputable def Fp:St:=⟨[(S' "items",.loc 3)],[],bj++[.dead],[]⟩
noncomputable def Da (more:List AO):St:=⟨M7,[],bj++[.dead]++wn 4++more,[]⟩
noncomputable def Hf (P:Params):St:=⟨[(S' "totals",.loc 8),(S' "height",.int (.v 0)),(S' "depth",.int (.v 1))],[],bj++[.dead,.dead]++wn 5,[]⟩
noncomputable def GQ:List AO:=bj++[.dead,.dead]++wn 5++[.tup [.loc 8,.int (.v 0),.int (.v 1)]]
noncomputable def iO (P:Params):Stmt:=(al P 595).getD 2 (.Pass default)
noncomputable def AC (P:Params):VC:=(zX P xb 37 (bm P 595) ((al P 595).take 2) Fp).vc [0,1,2,3,6,7,4,5] .nx (Da [])
noncomputable def EI (P:Params):VC:=(DG P xb 37 (bm P 595) (aQ (iO P)) (Da [])).vc [0,1,2,3,4,5,6,7] (.rt (.loc 3)) (Da [])
noncomputable def vH (P:Params):VC:=(zX P xb 37 (bm P 595) ((al P 595).drop 3) (Hf P)).vc [0,1,2,3,4,5,6,7,8,9] (.rt (.loc 9)) ⟨[],[],GQ,[]⟩
theorem yI (P:Params):al P 595=(al P 595).take 2++(.For (.Name (bh (cB (iO P))) (aR (cB (iO P)))) (aQ (iO P)) (bf (iO P)) [] (iO P).pos::(al P 595).drop 3):=by kernel_rfl
theorem Et (P:Params):dN P 595=some (aY P 595):=by kernel_rfl
theorem xh (P:Params):aP (aY P 595) [.loc 3]=some [(S' "items",.loc 3)]:=by kernel_rfl
theorem Ev (P:Params):(⟨[(S' "items",AV.loc 3)].reverse.filter (fun x=>decide ((aY P 595).scope.names.lookup x.1=some .local)),(ae (aY P 595).scope.names).zip ((List.range (ae (aY P 595).scope.names).length).map ((bj++[AO.dead]).length + ·)),(bj++[.dead])++(ae (aY P 595).scope.names).map (fun n=>.cell ([(S' "items",AV.loc 3)].reverse.lookup n)),[]⟩:St)=Fp:=by kernel_rfl
theorem AG (P:Params):cp (aQ (iO P))=false:=by kernel_rfl
theorem qb (P:Params):AC P=VC.ok [Ob1.ie (IE.c 1) (IE.c 1),Ob1.ie (IE.c 0) (IE.v 3),Ob1.ie (IE.c 0) (IE.v 4),Ob1.ie (IE.c 0) (IE.v 5),Ob1.ie (IE.c 0) (IE.v 6),Ob1.ie (IE.c 0) (IE.v 7),Ob1.ie (IE.c 0) (IE.v 8),Ob1.ie (IE.c 0) (IE.v 9),Ob1.ie (IE.c 0) (IE.v 10),Ob1.ie (IE.c 0) (IE.v 2),Ob1.ie (IE.c 0) (IE.v 0),Ob1.ie (IE.c 0) (IE.v 1)]:=by kernel_rfl
theorem rm (P:Params):EI P=VC.ok [Ob1.ie (IE.c 1) (IE.c 1),Ob1.ie (IE.v 3) (IE.v 3),Ob1.ie (IE.v 4) (IE.v 4),Ob1.ie (IE.v 5) (IE.v 5),Ob1.ie (IE.v 6) (IE.v 6),Ob1.ie (IE.v 7) (IE.v 7),Ob1.ie (IE.v 8) (IE.v 8),Ob1.ie (IE.v 9) (IE.v 9),Ob1.ie (IE.v 10) (IE.v 10),Ob1.ie (IE.v 2) (IE.v 2),Ob1.ie (IE.v 0) (IE.v 0),Ob1.ie (IE.v 1) (IE.v 1)]:=by kernel_rfl
theorem mx (P:Params):vH P=VC.ok [Ob1.ie (IE.c 1) (IE.c 1),Ob1.ie (IE.v 3) (IE.v 3),Ob1.ie (IE.v 4) (IE.v 4),Ob1.ie (IE.v 5) (IE.v 5),Ob1.ie (IE.v 6) (IE.v 6),Ob1.ie (IE.v 7) (IE.v 7),Ob1.ie (IE.v 8) (IE.v 8),Ob1.ie (IE.v 9) (IE.v 9),Ob1.ie (IE.v 10) (IE.v 10),Ob1.ie (IE.v 2) (IE.v 2),Ob1.ie (IE.v 0) (IE.v 0),Ob1.ie (IE.v 1) (IE.v 1)]:=by kernel_rfl
theorem xe (i:Nat):aM [0,1,2,3,8,4,5,6,7] (Da [.lit 3 0]) (q8 0 [])=some [Ob1.ie (IE.c 1) (IE.c 1),Ob1.nat 0 0,Ob1.ie (IE.v 3) (IE.v 3),Ob1.ie (IE.v 4) (IE.v 4),Ob1.ie (IE.v 5) (IE.v 5),Ob1.ie (IE.v 6) (IE.v 6),Ob1.ie (IE.v 7) (IE.v 7),Ob1.ie (IE.v 8) (IE.v 8),Ob1.ie (IE.v 9) (IE.v 9),Ob1.ie (IE.v 10) (IE.v 10),Ob1.ie (IE.v 2) (IE.v 2),Ob1.ie (IE.v 0) (IE.v 0),Ob1.ie (IE.v 1) (IE.v 1)]:=by kernel_rfl
theorem vY (i:Nat):aM [0,1,2,3,4,5,6,7,8] (q8 i []) (q8 i [])=some [Ob1.ie (IE.c 1) (IE.c 1),Ob1.nat i i,Ob1.ie (IE.v 3) (IE.v 3),Ob1.ie (IE.v 4) (IE.v 4),Ob1.ie (IE.v 5) (IE.v 5),Ob1.ie (IE.v 6) (IE.v 6),Ob1.ie (IE.v 7) (IE.v 7),Ob1.ie (IE.v 8) (IE.v 8),Ob1.ie (IE.v 9) (IE.v 9),Ob1.ie (IE.v 10) (IE.v 10),Ob1.ie (IE.v 2) (IE.v 2),Ob1.ie (IE.v 0) (IE.v 0),Ob1.ie (IE.v 1) (IE.v 1)]:=by kernel_rfl
theorem yg (P:Params) (i:Nat):aM [0,1,2,3,4,5,6,7,8] ⟨(q8 i []).ls,[],(q8 i []).ob.set 4 .dead,[]⟩ (Hf P)=some [Ob1.ie (IE.c 1) (IE.c 1),Ob1.ie (IE.v 3) (IE.v 3),Ob1.ie (IE.v 4) (IE.v 4),Ob1.ie (IE.v 5) (IE.v 5),Ob1.ie (IE.v 6) (IE.v 6),Ob1.ie (IE.v 7) (IE.v 7),Ob1.ie (IE.v 8) (IE.v 8),Ob1.ie (IE.v 9) (IE.v 9),Ob1.ie (IE.v 10) (IE.v 10),Ob1.ie (IE.v 2) (IE.v 2),Ob1.ie (IE.v 0) (IE.v 0),Ob1.ie (IE.v 1) (IE.v 1)]:=by kernel_rfl
section
variable {w:World} {A:Around} {gs:Array GenState} {dr:Drawn} {os:OsState} {g:Gr} {F:List Addr} {h:Heap} {n:Nat} {a:Addr} {Vs:List Value} {nds:List Nd}
theorem xV (W:Wd w h) (kg:∀a o,g a=some o->h.get? a=some o) (Fo:aT w g F) (It:Items g F a Vs nds) (R:Room A 41) {Q:Value->Shared->Prop} {E:Value->Shared->Prop}
  (q:∀V h' n' as',Co w (aB (ad nds) []) (OG w g) h.get? h' GQ [] as'->Dn (aB (ad nds) []) as' (.loc 9) V->Q V ⟨h',gs,dr,n',os⟩):wpAny (model pr w) A (call (.ref 595) [.ref a]) Q E ⟨h,gs,dr,n,os⟩:=by
 match F,id Fo with
 | _,⟨f0,f1,f2,rfl,_⟩ =>
 have C0:Co w (aB (ad nds) []) (OG w g) h.get? h (bj++[.dead]) [] [f0,f1,f2,a]:=Co.all W kg ((gf Fo).app (.cons ⟨trivial,rfl⟩ .nil))
 refine go R (Et w.params) (xh w.params) C0 (.cons ⟨a,rfl,rfl⟩ .nil) fun A' env h1 n1 as1 R1 esc p1 S1 E'=>?_
 refine cW fun Q' E' kq zw=>?_
 replace esc:env.scope=bm w.params 595:=esc
 rw [Ev,p1.eq S1.sz] at S1
 refine aa (show (aY w.params 595).body=_ from yI w.params) ?_
 refine aH (MO (ρ':=aB (ad []) []) (d9 rfl) esc (qb w.params) R1 S1 ⟨rfl,rfl,rfl,rfl,rfl,rfl,rfl,rfl,rfl,rfl,rfl,rfl⟩ fun h2 as2 n2 S2 p2=>?_)
 apply bc;intro ng
 obtain ⟨t,rfl⟩:=p2
 replace S2:SR w (aB (ad []) []) (OG w g) h.get? env h2 (Da []) [f0,f1,f2,a,t.getD 2 0,t.getD 3 0,t.getD 0 0,t.getD 1 0]:=S2
 generalize t.getD 0 0=u0 at S2; generalize t.getD 1 0=u1 at S2; generalize t.getD 2 0=u2 at S2; generalize t.getD 3 0=u3 at S2
 apply ng;clear ng
 refine wpAny_execs_cons (wpAny_For (FR (ρ':=aB (ad []) []) (d9 rfl) esc (rm w.params) R1 S2 rfl (as2:=[f0,f1,f2,a,u2,u3,u0,u1]) rfl ⟨rfl,rfl,rfl,rfl,rfl,rfl,rfl,rfl,rfl,rfl,rfl,rfl⟩ fun V h3 n3 S3 dv=>?_) (dO (AG w.params)))
 refine aa (tZ dv rfl) ?_
 have hl:h3.IsList a Vs.toArray:=It.list.le fun o e=>S3.kp _ _ (kg _ _ e)
 refine wpAny_pyIter_list (s:=⟨h3,gs,dr,n3,os⟩) hl ?_
 have S4:=S3.push { cls:=.type "list_iterator",data:=.fields #[.ref a,rawInt 0] } (ao:=.lit 3 0) ⟨a,rfl,_,Heap.get?_push_size _ rfl,rfl,rfl⟩
 have S5:SR w (aB (ad (nds.take 0)) []) (OG w g) h.get? env _ (q8 0 []) [f0,f1,f2,a,h3.objs.size,u2,u3,u0,u1]:=S4.re (s':=q8 0 []) (ρ':=aB (ad []) []) [0,1,2,3,8,4,5,6,7] (xe 0) ⟨rfl,rfl,rfl,rfl,rfl,rfl,rfl,rfl,rfl,rfl,rfl,rfl,rfl⟩
 refine vF R1 (m:=4) (j:=3) (It.list.le (kg _)) rfl rfl (fun i=>aB (ad (nds.take i)) []) (fun i=>q8 i []) (fun zw=>rfl) (fun i h6 n6 V hV S6 Q2 E1 E2 q2=>?_) (fun h6 n6 S6=>?_) S5
 ·apply bc;intro ng
  obtain ⟨nd,hnd,x,rfl,N,ok⟩:=It.nodes.get hV
  obtain ⟨nas,na,nx⟩:=kz N (as:=[f0,f1,f2,a,h3.objs.size,u2,u3,u0,u1]) rfl rfl (ρ:=aB (ad (nds.take i)) nd.a) fun j=>NM
  apply ng;clear ng
  have S7:=S6.re (s':=q8 (i + 1) []) (ρ':=aB (ad (nds.take i)) nd.a) [0,1,2,3,4,5,6,7,8] (vY (i + 1)) ⟨rfl,rfl,rfl,rfl,rfl,rfl,rfl,rfl,rfl,rfl,rfl,rfl,rfl⟩
  refine yT (m:=[0,1,2,3,4,5,6,7,8]) (s':=q8 (i + 1) []) (v:=.loc (9 + nd.k.last)) (d9 rfl) (by refine aa esc ?_; rfl) R1 (S7.join nx) ⟨x,(List.getElem?_append_right (Nat.le_add_right 9 _)).trans ((congrArg (nas[·]?) (Nat.add_sub_cancel_left 9 _)).trans na),rfl⟩ (yF w.params (t:=ad (nds.take i)) (i:=i) ok) fun Fl h9 as9 n9 hfl S9 p9=>?_
  apply bc;intro ng
  obtain ⟨t,rfl⟩:=p9
  exact ng (q2 _ _ _ hfl (qK hnd▸S9))
 ·have S7:=S6.re (s':=Hf w.params) (ρ':=aB (ad nds) []) [0,1,2,3,4,5,6,7,8] (yg w.params _) (by
   refine aa (show nds.take Vs.length=nds by rw [It.nodes.len,List.take_length]) ?_; exact ⟨rfl,rfl,rfl,rfl,rfl,rfl,rfl,rfl,rfl,rfl,rfl,rfl⟩)
  exact Mw (ρ':=aB (ad nds) []) (d9 rfl) esc (mx w.params) R1 S7 ⟨rfl,rfl,rfl,rfl,rfl,rfl,rfl,rfl,rfl,rfl,rfl,rfl⟩ fun V h8 as8 n8 S8 p8 dv=>kq _ _ (q V _ _ _ S8.out dv)
end
structure Bx where
 s:Int
 o:Int
 p:Int
 q:Int
structure Pl where
 fx:Int
 fl:Int
 out:List Int
noncomputable def zM (n b:Int):Int:=if n < 0 then -((b - 2 * n) / (2 * b)) else (2 * n + b) / (2 * b)
noncomputable def Nd.fl (B:Bx) (nd:Nd):Int:=match nd.k with
 | .skp=>if B.s=1/\nd.i 2=B.o then nd.i 1 else if B.s=2/\nd.i 4=B.o then -(nd.i 3) else 0
 | _=>0
noncomputable def Pl.add (B:Bx) (t:Pl) (nd:Nd):Pl:=⟨t.fx + nd.w,t.fl + nd.fl B,t.out++[t.fx + nd.w + zM (B.p * (t.fl + nd.fl B)) B.q]⟩
noncomputable def cb (B:Bx) (t:Pl) (a:List Int):Rho:=⟨fun i=>([t.fx,t.fl,B.s,B.o,B.p,B.q,0,0,0,0,0]++a).getD i 0,ff,fun i=>if i=0 then t.out else []⟩
noncomputable def oz:List AO:=[.fz (.tup [.int (.v 4),.int (.v 5)]),.fz (.ns [(S' "ratio",.loc 6),(S' "order",.int (.v 3)),(S' "sign",.int (.v 2)),(S' "shift",.any),(S' "items",.loc 3),(S' "depth",.any),(S' "height",.any),(S' "width",.any),(S' "kind",.int (.c 2))]),.fz (.inst 389 7)]
noncomputable def L4:List (Str×AV):=[(S' "box",.loc 8),(S' "found",.loc 5),(S' "fixed",.int (.v 0)),(S' "flexed",.int (.v 1))]
noncomputable def rh (i:Nat) (more:List AO):St:=⟨L4,[],bj++[.dead,.lit 3 i,.il 0 []]++oz++more,[]⟩
noncomputable def gh (P:Params):Stmt:=(al P 644).getD 3 (.Pass default)
noncomputable def oX (P:Params) (i:Nat) (k:Nk):VC :=
 (GI P xb 37 (bm P 644) (bh (cB (gh P))) (.loc (9 + k.last)) (bf (gh P)) (rh (i + 1) ((k.T 9 11).map .fz))).vc [0,1,2,3,4,5,6,7,8] .ct (rh (i + 1) [])
noncomputable def rV:St:=⟨[(S' "box",.loc 8)],[],bj++[.dead,.dead,.dead]++oz,[]⟩
noncomputable def yY (more:List AO):St:=⟨L4,[],bj++[.dead,.dead,.il 0 []]++oz++more,[]⟩
noncomputable def LW:List AO:=bj++[.dead,.dead,.il 0 []]++oz
noncomputable def BZ (P:Params):VC:=(zX P xb 37 (bm P 644) ((al P 644).take 3) rV).vc [0,1,2,3,4,9,6,7,8] .nx (yY [])
noncomputable def DN (P:Params):VC:=(DG P xb 37 (bm P 644) (aQ (gh P)) (yY [])).vc [0,1,2,3,4,5,6,7,8] (.rt (.loc 3)) (yY [])
noncomputable def xr (P:Params):VC:=(zX P xb 37 (bm P 644) ((al P 644).drop 4) (yY [])).vc [0,1,2,3,4,5,6,7,8] (.rt (.loc 5)) ⟨[],[],LW,[]⟩
theorem vC (P:Params):al P 644=(al P 644).take 3++(.For (.Name (bh (cB (gh P))) (aR (cB (gh P)))) (aQ (gh P)) (bf (gh P)) [] (gh P).pos::(al P 644).drop 4):=by kernel_rfl
theorem FC (P:Params):dN P 644=some (aY P 644):=by kernel_rfl
theorem wh (P:Params):aP (aY P 644) [.loc 8]=some [(S' "box",.loc 8)]:=by kernel_rfl
theorem DW (P:Params):(⟨[(S' "box",AV.loc 8)].reverse.filter (fun x=>decide ((aY P 644).scope.names.lookup x.1=some .local)),(ae (aY P 644).scope.names).zip ((List.range (ae (aY P 644).scope.names).length).map (rV.ob.length + ·)),rV.ob++(ae (aY P 644).scope.names).map (fun n=>.cell ([(S' "box",AV.loc 8)].reverse.lookup n)),[]⟩:St)=rV:=by kernel_rfl
theorem A7 (P:Params):cp (aQ (gh P))=false:=by kernel_rfl
noncomputable def LT (i:Nat) (w y z:IE):VC:=.req (.lt (.c 0) (.mul (.c 2) (.v 5))) (.req (.lt (.mul (.c 2) (.v 5)) (.c 1606938044258990275541962092341162602522202993782792835301376)) (.req (.ilen 0 0) (.ok [.ie (.c 1) (.c 1),.nat (i + 1) (i + 1),.il 0 [.add (.add (.v 0) w) z] 0 [],.ie (.v 4) (.v 4),.ie (.v 5) (.v 5),.ie (.v 3) (.v 3),.ie (.v 2) (.v 2),.ie (.c 2) (.c 2),.ie (.add (.v 0) w) (.v 0),.ie y (.v 1)])))
noncomputable def mt (i:Nat) (w y:IE):VC:=.req (.mulok (.v 4) y) (.br (.le (.v 5) (.c 0)) .fail (.br (.lt (.mul (.v 4) y) (.c 0)) (LT i w y (.neg (.div (.sub (.v 5) (.mul (.c 2) (.mul (.v 4) y))) (.mul (.c 2) (.v 5))))) (LT i w y (.div (.add (.mul (.c 2) (.mul (.v 4) y)) (.v 5)) (.mul (.c 2) (.v 5))))))
noncomputable def Mb (i:Nat):VC:=mt i (.v 11) (.add (.v 1) (.c 0))
noncomputable def JW (i:Nat):VC:=.br (.eq (.v 2) (.c 2)) (.br (.eq (.v 15) (.v 3)) (mt i (.v 11) (.add (.v 1) (.neg (.v 14)))) (Mb i)) (Mb i)
theorem xO (P:Params) (i:Nat):oX P i .skp = .br (.eq (.v 2) (.c 1)) (.br (.eq (.v 13) (.v 3)) (mt i (.v 11) (.add (.v 1) (.v 12))) (JW i)) (JW i):=by kernel_rfl
theorem yE (P:Params) (i:Nat):oX P i .krn=mt i (.v 11) (.v 1):=by kernel_rfl
theorem tR (P:Params) (i:Nat):oX P i .box2=mt i (.v 11) (.v 1):=by kernel_rfl
theorem ry (P:Params) (i:Nat):oX P i .box3=mt i (.v 11) (.v 1):=by kernel_rfl
theorem wY (P:Params) (i:Nat):oX P i .pck=mt i (.v 11) (.v 1):=by kernel_rfl
theorem vu (P:Params) (i:Nat):oX P i .rul=mt i (.v 11) (.v 1):=by kernel_rfl
theorem sT (P:Params) (i:Nat):oX P i .rul4=mt i (.v 11) (.v 1):=by kernel_rfl
theorem yh (P:Params) (i:Nat):oX P i .mth=mt i (.v 11) (.v 1):=by kernel_rfl
theorem t5 (P:Params) (i:Nat):oX P i .dsc0=mt i (.c 0) (.v 1):=by kernel_rfl
theorem yD (P:Params) (i:Nat):oX P i .pen=mt i (.c 0) (.v 1):=by kernel_rfl
theorem yA (P:Params) (i:Nat):oX P i .chr=rc (mt i (.fn 1 (.v 11) (.c 0) (.c 0)) (.v 1)):=by kernel_rfl
theorem rY (P:Params) (i:Nat):oX P i .dsc1=rc (mt i (.fn 1 (.v 11) (.c 0) (.c 0)) (.v 1)):=by kernel_rfl
theorem uf (P:Params) (i:Nat):oX P i .dsc2=rc (mt i (.add (.fn 1 (.v 11) (.c 0) (.c 0)) (.v 12)) (.v 1)):=by kernel_rfl
theorem qZ (P:Params):BZ P=VC.ok [Ob1.ie (IE.c 1) (IE.c 1),Ob1.ii [IE.c 0] 0 [],Ob1.ie (IE.v 4) (IE.v 4),Ob1.ie (IE.v 5) (IE.v 5),Ob1.ie (IE.v 3) (IE.v 3),Ob1.ie (IE.v 2) (IE.v 2),Ob1.ie (IE.c 2) (IE.c 2),Ob1.ie (IE.c 0) (IE.v 0),Ob1.ie (IE.c 0) (IE.v 1)]:=by kernel_rfl
theorem rC (P:Params):DN P=VC.ok [Ob1.ie (IE.c 1) (IE.c 1),Ob1.il 0 [] 0 [],Ob1.ie (IE.v 4) (IE.v 4),Ob1.ie (IE.v 5) (IE.v 5),Ob1.ie (IE.v 3) (IE.v 3),Ob1.ie (IE.v 2) (IE.v 2),Ob1.ie (IE.c 2) (IE.c 2),Ob1.ie (IE.v 0) (IE.v 0),Ob1.ie (IE.v 1) (IE.v 1)]:=by kernel_rfl
theorem mU (P:Params):xr P=VC.ok [Ob1.ie (IE.c 1) (IE.c 1),Ob1.il 0 [] 0 [],Ob1.ie (IE.v 4) (IE.v 4),Ob1.ie (IE.v 5) (IE.v 5),Ob1.ie (IE.v 3) (IE.v 3),Ob1.ie (IE.v 2) (IE.v 2),Ob1.ie (IE.c 2) (IE.c 2)]:=by kernel_rfl
theorem vL (i:Nat):aM [0,1,2,3,9,5,6,7,8] (yY [.lit 3 0]) (rh 0 [])=some [Ob1.ie (IE.c 1) (IE.c 1),Ob1.nat 0 0,Ob1.il 0 [] 0 [],Ob1.ie (IE.v 4) (IE.v 4),Ob1.ie (IE.v 5) (IE.v 5),Ob1.ie (IE.v 3) (IE.v 3),Ob1.ie (IE.v 2) (IE.v 2),Ob1.ie (IE.c 2) (IE.c 2),Ob1.ie (IE.v 0) (IE.v 0),Ob1.ie (IE.v 1) (IE.v 1)]:=by kernel_rfl
theorem vo (i:Nat):aM [0,1,2,3,4,5,6,7,8] (rh i []) (rh i [])=some [Ob1.ie (IE.c 1) (IE.c 1),Ob1.nat i i,Ob1.il 0 [] 0 [],Ob1.ie (IE.v 4) (IE.v 4),Ob1.ie (IE.v 5) (IE.v 5),Ob1.ie (IE.v 3) (IE.v 3),Ob1.ie (IE.v 2) (IE.v 2),Ob1.ie (IE.c 2) (IE.c 2),Ob1.ie (IE.v 0) (IE.v 0),Ob1.ie (IE.v 1) (IE.v 1)]:=by kernel_rfl
theorem wc (i:Nat):aM [0,1,2,3,4,5,6,7,8] ⟨(rh i []).ls,[],(rh i []).ob.set 4 .dead,[]⟩ (yY [])=some [Ob1.ie (IE.c 1) (IE.c 1),Ob1.il 0 [] 0 [],Ob1.ie (IE.v 4) (IE.v 4),Ob1.ie (IE.v 5) (IE.v 5),Ob1.ie (IE.v 3) (IE.v 3),Ob1.ie (IE.v 2) (IE.v 2),Ob1.ie (IE.c 2) (IE.c 2),Ob1.ie (IE.v 0) (IE.v 0),Ob1.ie (IE.v 1) (IE.v 1)]:=by kernel_rfl
section
variable {B:Bx} {t:Pl} {a:List Int}
theorem Nx {j:Nat}:(cb B t a).v (11 + j)=a.getD j 0:=by
 show ([t.fx,t.fl,B.s,B.o,B.p,B.q,0,0,0,0,0]++a).getD (11 + j) 0=_
 unfold List.getD
 refine aa (List.getElem?_append_right (by simp)) ?_
 simp
structure Bx.ok (B:Bx):Prop where
 q0:1<=B.q
 q1:B.q < 2 ^ 100
 p:B.p.natAbs < 2 ^ 60
theorem jR {n:Int} (h:n.natAbs < 2 ^ 60):Builtin.Int.intBits n<=64:=by
 unfold Builtin.Int.intBits
 split
 ·exact Nat.zero_le _
 ·rename_i hn
  have hn:n≠0:=by simpa using hn
  have:=(Nat.log2_lt (n:=n.natAbs) (k:=60) (by omega)).mpr h; omega
theorem DM {q:Int} (h:1<=q) (k:q < 2 ^ 100):0 < 2 * q/\2 * q < 1606938044258990275541962092341162602522202993782792835301376:=by omega
theorem bJ {nd:Nd} {i:Nat} {w y:IE} (hB:B.ok) (hl:t.out.length<=900) (c:w.den (cb B t nd.a)=nd.w) (d:y.den (cb B t nd.a)=t.fl + nd.fl B):(mt i w y).den (cb B t nd.a) (cb B (t.add B nd) []):=by
 have o:∀z:IE,z.den (cb B t nd.a)=zM (B.p * (t.fl + nd.fl B)) B.q->(LT i w y z).den (cb B t nd.a) (cb B (t.add B nd) []):=fun z e=>by
  refine ⟨(DM hB.q0 hB.q1).1,(DM hB.q0 hB.q1).2,show t.out.length + 0<=1000 from Nat.le_trans hl (by decide),rfl,rfl,?_,rfl,rfl,rfl,rfl,rfl,congrArg (t.fx + ·) c,d⟩
  show t.out++[t.fx + w.den _ + z.den _]=(t.out++[t.fx + nd.w + zM (B.p * (t.fl + nd.fl B)) B.q])++[]
  rw [c,e,List.append_nil]
 refine ⟨IntMulOk.of_left (jR hB.p),fun h=>Int.not_lt.mpr (show B.q<=0 from h) hB.q0,fun zw=>⟨fun h=>o _ ?_,fun h=>o _ ?_⟩⟩
 ·refine aa (Eq.symm d) ?_; exact (if_pos (show B.p * y.den _ < 0 from h)).symm
 ·refine aa (Eq.symm d) ?_; exact (if_neg (show ¬B.p * y.den _ < 0 from h)).symm
theorem yL (P:Params) {nd:Nd} {i:Nat} (ok:nd.ok) (hB:B.ok) (hl:t.out.length<=900):(oX P i nd.k).den (cb B t nd.a) (cb B (t.add B nd) []):=by
 have z:=(Int.add_zero t.fl).symm
 match nd with
 | ⟨k,a⟩ =>
 induction k with
 | chr=>rw [yA]; exact ⟨ok.1,ok.2,bJ (nd:=⟨.chr,a⟩) hB hl rfl z⟩
 | dsc1=>rw [rY]; exact ⟨ok.1,ok.2,bJ (nd:=⟨.dsc1,a⟩) hB hl rfl z⟩
 | dsc2=>rw [uf]; exact ⟨ok.1,ok.2,bJ (nd:=⟨.dsc2,a⟩) hB hl rfl z⟩
 | skp =>
  have g:∀{x:Int},Nd.fl B ⟨.skp,a⟩=x->t.fl + x=t.fl + Nd.fl B ⟨.skp,a⟩:=fun e=>congrArg (t.fl + ·) e.symm
  have n:(¬(B.s=1/\a.getD 2 0=B.o))->(JW i).den (cb B t a) (cb B (t.add B ⟨.skp,a⟩) []):=fun n1 =>
   ⟨fun h=>⟨fun h4=>bJ (nd:=⟨.skp,a⟩) hB hl rfl (g ((if_neg n1).trans (if_pos ⟨h,h4⟩))),fun h4=>bJ (nd:=⟨.skp,a⟩) hB hl rfl (g ((if_neg n1).trans (if_neg fun z=>h4 z.2)))⟩,fun h=>bJ (nd:=⟨.skp,a⟩) hB hl rfl (g ((if_neg n1).trans (if_neg fun z=>h z.1)))⟩
  rw [xO]
  exact ⟨fun h=>⟨fun h2=>bJ (nd:=⟨.skp,a⟩) hB hl rfl (g (if_pos ⟨h,h2⟩)),fun h2=>n fun z=>h2 z.2⟩,fun h=>n fun z=>h z.1⟩
 | krn=>rw [yE]; exact bJ (nd:=⟨.krn,a⟩) hB hl rfl z
 | box2=>rw [tR]; exact bJ (nd:=⟨.box2,a⟩) hB hl rfl z
 | box3=>rw [ry]; exact bJ (nd:=⟨.box3,a⟩) hB hl rfl z
 | pck=>rw [wY]; exact bJ (nd:=⟨.pck,a⟩) hB hl rfl z
 | rul=>rw [vu]; exact bJ (nd:=⟨.rul,a⟩) hB hl rfl z
 | rul4=>rw [sT]; exact bJ (nd:=⟨.rul4,a⟩) hB hl rfl z
 | mth=>rw [yh]; exact bJ (nd:=⟨.mth,a⟩) hB hl rfl z
 | dsc0=>rw [t5]; exact bJ (nd:=⟨.dsc0,a⟩) hB hl rfl z
 | pen=>rw [yD]; exact bJ (nd:=⟨.pen,a⟩) hB hl rfl z
end
def Ao (g:Gr) (items b:Addr) (B:Bx):Prop:=∃r d,∀(as:List Addr) (ρ:Rho),as[3]? = some items->as[6]? = some r->as[7]? = some d->ρ.v 2=B.s->ρ.v 3=B.o->ρ.v 4=B.p->ρ.v 5=B.q->
 aN ρ as g r (.tup [.int (.v 4),.int (.v 5)])/\aN ρ as g d (.ns [(S' "ratio",.loc 6),(S' "order",.int (.v 3)),(S' "sign",.int (.v 2)),(S' "shift",.any),(S' "items",.loc 3),(S' "depth",.any),(S' "height",.any),(S' "width",.any),(S' "kind",.int (.c 2))])/\aN ρ as g b (.inst 389 7)
noncomputable def Pl.zero:Pl:=⟨0,0,[0]⟩
noncomputable def bw (B:Bx) (nds:List Nd):Pl:=nds.foldl (Pl.add B) Pl.zero
theorem nj {B:Bx} {nds:List Nd} {i:Nat} {nd:Nd} (h:nds[i]? = some nd):bw B (nds.take (i + 1))=(bw B (nds.take i)).add B nd:=by
 unfold bw
 refine aa List.take_add_one (aa h ?_)
 simp
theorem jt {B:Bx}:∀(nds:List Nd) (t:Pl),(nds.foldl (Pl.add B) t).out.length=t.out.length + nds.length
 | [],t=>rfl
 | nd::r,t=>by
  rw [List.foldl_cons,jt r]
  simp [Pl.add]; (first | lia | omega)
section
variable {w:World} {A:Around} {gs:Array GenState} {dr:Drawn} {os:OsState} {g:Gr} {F:List Addr} {h:Heap} {n:Nat} {a b:Addr} {Vs:List Value} {nds:List Nd} {B:Bx}
theorem o4 (W:Wd w h) (kg:∀a o,g a=some o->h.get? a=some o) (Fo:aT w g F) (It:Items g F a Vs nds) (Bo:Ao g a b B) (hB:B.ok) (hn:nds.length<=800) (R:Room A 41) {Q:Value->Shared->Prop} {E:Value->Shared->Prop}
  (q:∀V h' n' as',Co w (cb B (bw B nds) []) (OG w g) h.get? h' LW [] as'->Dn (cb B (bw B nds) []) as' (.loc 5) V->Q V ⟨h',gs,dr,n',os⟩):wpAny (model pr w) A (call (.ref 644) [.ref b]) Q E ⟨h,gs,dr,n,os⟩:=by
 match F,id Fo with
 | _,⟨f0,f1,f2,rfl,_⟩ =>
 apply bc;intro ng
 obtain ⟨r,d,hbx⟩:=Bo
 have hb0:=hbx [f0,f1,f2,a,a,a,r,d,b] (cb B Pl.zero []) rfl rfl rfl rfl rfl rfl rfl
 have C0:Co w (cb B Pl.zero []) (OG w g) h.get? h rV.ob [] [f0,f1,f2,a,a,a,r,d,b] :=
  Co.all W kg ((gf (w:=w) (ρ:=cb B Pl.zero []) (rest:=[a,a,a,r,d,b]) (h:=h) Fo).app (.cons ⟨trivial,rfl⟩ (.cons ⟨trivial,rfl⟩ (.cons ⟨trivial,rfl⟩ (.cons ⟨hb0.1,rfl⟩ (.cons ⟨hb0.2.1,rfl⟩ (.cons ⟨hb0.2.2,rfl⟩ .nil)))))))
 refine ng (go R (FC w.params) (wh w.params) C0 (.cons ⟨b,rfl,rfl⟩ .nil) fun A' env h1 n1 as1 R1 esc p1 S1 E'=>?_); clear ng
 refine cW fun Q' E' kq zw=>?_
 replace esc:env.scope=bm w.params 644:=esc
 rw [DW w.params,p1.eq S1.sz] at S1
 refine aa (show (aY w.params 644).body=_ from vC w.params) ?_
 refine aH (MO (ρ':=cb B (bw B []) []) (d9 rfl) esc (qZ w.params) R1 S1 ⟨rfl,rfl,rfl,rfl,rfl,rfl,rfl,rfl,rfl⟩ fun h2 as2 n2 S2 p2=>?_)
 apply bc;intro ng
 obtain ⟨t,rfl⟩:=p2
 replace S2:SR w (cb B (bw B []) []) (OG w g) h.get? env h2 (yY []) [f0,f1,f2,a,a,t.getD 0 0,r,d,b]:=S2
 generalize t.getD 0 0=u0 at S2
 apply ng;clear ng
 refine wpAny_execs_cons (wpAny_For (FR (ρ':=cb B (bw B []) []) (d9 rfl) esc (rC w.params) R1 S2 rfl (as2:=[f0,f1,f2,a,a,u0,r,d,b]) rfl ⟨rfl,rfl,rfl,rfl,rfl,rfl,rfl,rfl,rfl⟩ fun V h3 n3 S3 dv=>?_) (dO (A7 w.params)))
 refine aa (tZ dv rfl) ?_
 have hl:h3.IsList a Vs.toArray:=It.list.le fun o e=>S3.kp _ _ (kg _ _ e)
 refine wpAny_pyIter_list (s:=⟨h3,gs,dr,n3,os⟩) hl ?_
 have S4:=S3.push { cls:=.type "list_iterator",data:=.fields #[.ref a,rawInt 0] } (ao:=.lit 3 0) ⟨a,rfl,_,Heap.get?_push_size _ rfl,rfl,rfl⟩
 have S5:SR w (cb B (bw B (nds.take 0)) []) (OG w g) h.get? env _ (rh 0 []) [f0,f1,f2,a,h3.objs.size,u0,r,d,b]:=S4.re (s':=rh 0 []) (ρ':=cb B (bw B []) []) [0,1,2,3,9,5,6,7,8] (vL 0) ⟨rfl,rfl,rfl,rfl,rfl,rfl,rfl,rfl,rfl,rfl⟩
 refine vF R1 (m:=4) (j:=3) (It.list.le (kg _)) rfl rfl (fun i=>cb B (bw B (nds.take i)) []) (fun i=>rh i []) (fun zw=>rfl) (fun i h6 n6 V hV S6 Q2 E1 E2 q2=>?_) (fun h6 n6 S6=>?_) S5
 ·apply bc;intro ng
  obtain ⟨nd,hnd,x,rfl,N,ok⟩:=It.nodes.get hV
  obtain ⟨nas,na,nx⟩:=kz N (as:=[f0,f1,f2,a,h3.objs.size,u0,r,d,b]) rfl rfl (ρ:=cb B (bw B (nds.take i)) nd.a) fun j=>Nx
  apply ng;clear ng
  have S7:=S6.re (s':=rh (i + 1) []) (ρ':=cb B (bw B (nds.take i)) nd.a) [0,1,2,3,4,5,6,7,8] (vo (i + 1)) ⟨rfl,rfl,rfl,rfl,rfl,rfl,rfl,rfl,rfl,rfl⟩
  have ln:(bw B (nds.take i)).out.length<=900:=by
   refine aa (show (bw B (nds.take i)).out.length=1 + (nds.take i).length from jt _ _) (aa List.length_take ?_)
   exact Nat.le_trans (Nat.add_le_add_left (Nat.le_trans (Nat.min_le_right _ _) hn) 1) (by decide)
  refine yT (m:=[0,1,2,3,4,5,6,7,8]) (s':=rh (i + 1) []) (v:=.loc (9 + nd.k.last)) (d9 rfl) (by refine aa esc ?_; rfl) R1 (S7.join nx) ⟨x,(List.getElem?_append_right (Nat.le_add_right 9 _)).trans ((congrArg (nas[·]?) (Nat.add_sub_cancel_left 9 _)).trans na),rfl⟩ (yL w.params (B:=B) (t:=bw B (nds.take i)) (i:=i) ok hB ln) fun Fl h9 as9 n9 hfl S9 p9=>?_
  apply bc;intro ng
  obtain ⟨t,rfl⟩:=p9
  exact ng (q2 _ _ _ hfl (nj hnd▸S9))
 ·have S7:=S6.re (s':=yY []) (ρ':=cb B (bw B nds) []) [0,1,2,3,4,5,6,7,8] (wc _) (by
   refine aa (show nds.take Vs.length=nds by rw [It.nodes.len,List.take_length]) ?_; exact ⟨rfl,rfl,rfl,rfl,rfl,rfl,rfl,rfl,rfl⟩)
  exact Mw (ρ':=cb B (bw B nds) []) (d9 rfl) esc (mU w.params) R1 S7 ⟨rfl,rfl,rfl,rfl,rfl,rfl,rfl⟩ fun V h8 as8 n8 S8 p8 dv=>kq _ _ (q V _ _ _ S8.out dv)
end
noncomputable def AV.shift (m:Nat):AV->AV | .loc i=>.loc (i + m) | v=>v
noncomputable def AO.shift (m:Nat):AO->AO
 | .lst vs=>.lst (vs.map (AV.shift m)) | .tup vs=>.tup (vs.map (AV.shift m)) | .ns fs=>.ns (fs.map fun p=>(p.1,p.2.shift m)) | .inst C j=>.inst C (j + m) | .pl vs=>.pl (vs.map (AV.shift m)) | o=>o
noncomputable def AO.plainA:AO->Bool | .lst _ | .tup _ | .ns _ | .inst _ _ | .pl _ | .il _ _=>true | _=>false
section
variable {w:World} {ρ ρ':Rho} {O O':Opq} {G:Gr}
theorem Dn.shift {as xs:List Addr} {v:AV} {V:Value} (d:Dn ρ xs v V):Dn ρ (as++xs) (v.shift as.length) V:=by
 induction v with
 | loc i =>
  obtain ⟨a,e,rfl⟩:=d
  exact ⟨a,by rw [List.getElem?_append_right (by (first | lia | omega)),Nat.add_sub_cancel]; exact e,rfl⟩
 | _=>exact d
theorem All2.shift {as xs:List Addr} {vs:List AV} {Vs:List Value} (x:All2 (Dn ρ xs) vs Vs):All2 (Dn ρ (as++xs)) (vs.map (AV.shift as.length)) Vs:=by
 induction x with | nil=>exact .nil | cons h _ ih=>exact .cons h.shift ih
theorem All2.shiftN {as xs:List Addr} {vs:List (Str×AV)} {Vs:List (Str×Value)} (x:All2 (Nm ρ xs) vs Vs):All2 (Nm ρ (as++xs)) (vs.map fun p=>(p.1,p.2.shift as.length)) Vs:=by
 induction x with | nil=>exact .nil | cons h _ ih=>exact .cons ⟨h.1,h.2.shift⟩ ih
theorem aN.shift {as xs:List Addr} {g:Gr} {a:Addr} {o:AO} (p:o.plainA=true) (x:aN ρ xs g a o):aN ρ (as++xs) g a (o.shift as.length)/\(o.shift as.length).own=true:=by
 induction o using AO.casesOn with
 | lst vs=>obtain ⟨Vs,y,z⟩:=x; exact ⟨⟨Vs,y.shift,z⟩,rfl⟩
 | tup vs=>obtain ⟨Vs,y,z⟩:=x; exact ⟨⟨Vs,y.shift,z⟩,rfl⟩
 | ns fs=>obtain ⟨Vs,y,z⟩:=x; exact ⟨⟨Vs,y.shiftN,z⟩,rfl⟩
 | inst C j=>obtain ⟨dx,y,z⟩:=x; exact ⟨⟨dx,by rw [List.getElem?_append_right (by (first | lia | omega)),Nat.add_sub_cancel]; exact y,z⟩,rfl⟩
 | pl vs=>obtain ⟨Vs,y,z⟩:=x; exact ⟨⟨Vs,y.shift,z⟩,rfl⟩
 | il b es=>exact ⟨x,rfl⟩
 | _=>exact bG p
theorem aC.ex {as:List Addr} {h:Heap} {a:Addr} {o:AO} (x:aC ρ O as h a o) (ow:o.own=true):∃y,h.get? a=some y:=by
 induction o using AO.casesOn with
 | lst vs=>exact let ⟨_,_,_,z,_⟩:=x; ⟨_,z⟩
 | tup vs=>exact let ⟨_,_,_,z,_⟩:=x; ⟨_,z⟩
 | ns vs=>exact let ⟨_,_,_,z,_⟩:=x; ⟨_,z⟩
 | inst C j=>exact let ⟨_,_,_,z,_⟩:=x; ⟨_,z⟩
 | cell v=>exact let ⟨_,_,_,z,_⟩:=x; ⟨_,z⟩
 | il b es=>exact let ⟨_,_,_,z,_⟩:=x; ⟨_,z⟩
 | pl vs=>exact let ⟨_,_,_,z,_⟩:=x; ⟨_,z⟩
 | raw t=>exact let ⟨_,z,_⟩:=x; ⟨_,z⟩
 | rf b=>exact let ⟨_,z,_⟩:=x; ⟨_,z⟩
 | dc ps=>exact let ⟨_,_,_,_,z,_⟩:=x; ⟨_,z⟩
 | lit j i=>exact let ⟨_,_,_,z,_⟩:=x; ⟨_,z⟩
 | tit j i=>exact let ⟨_,_,_,z,_⟩:=x; ⟨_,z⟩
 | opq k=>exact bG ow
 | dead=>exact bG ow
 | fz o=>exact bG ow
theorem Co.more {h h':Heap} {ob us:List AO} {pc:List (CE×Bool)} {as xs:List Addr} (S:Co w ρ O G h ob pc as) (N:Co w ρ O' h.get? h' us [] xs) (hp:us.all AO.plainA=true) :
  Co w ρ O G h' (ob++us.map (AO.shift as.length)) pc (as++xs):=by
 have lt:∀(i:Nat) o a,ob[i]? = some o->as[i]? = some a->o.own=true->∃x,h.get? a=some x:=fun i o a e e' ow=>((S.ob i o a e e').1).ex ow
 have S0:=S
 have S:=S.stay (h':=h') fun b o e=>N.kp b o e
 have pp:Pre as (as++xs):=⟨_,rfl⟩
 have cs:∀(i:Nat) o a,(ob++us.map (AO.shift as.length))[i]? = some o->(as++xs)[i]? = some a->(ob[i]? = some o/\as[i]? = some a)\/∃j u,i=as.length + j/\us[j]? = some u/\xs[j]? = some a/\o=u.shift as.length:=fun i o a e e'=>by
  by_cases hi:i < ob.length
  ·rw [List.getElem?_append_left hi] at e
   rw [List.getElem?_append_left (by refine aa S.sz ?_; exact hi)] at e'
   exact .inl ⟨e,e'⟩
  ·rw [List.getElem?_append_right (by (first | lia | omega)),List.getElem?_map] at e
   rw [List.getElem?_append_right (by refine aa S.sz ?_; (first | lia | omega)),S.sz] at e'
   induction q:us[i - ob.length]? with
   | none=>rw [q] at e; exact ap e
   | some u=>rw [q] at e; cases e; exact .inr ⟨i - ob.length,u,by rw [S.sz]; (first | lia | omega),q,e',rfl⟩
 have nw:∀(j:Nat) u a,us[j]? = some u->xs[j]? = some a->aN ρ (as++xs) h'.get? a (u.shift as.length)/\(u.shift as.length).own=true/\u.own=true/\h.get? a=none:=fun j u a e e'=>by
  have pu:=List.all_eq_true.mp hp u (List.mem_of_getElem? e)
  obtain ⟨x,y⟩:=N.ob j u a e e'
  have ow:u.own=true:=by cases u <;> first | rfl | cases pu
  have x':aN ρ xs h'.get? a u:=by cases u <;> first | exact x | cases pu
  obtain ⟨z1,z2⟩:=x'.shift (as:=as) pu
  exact ⟨z1,z2,ow,y ow⟩
 refine ⟨S.bs,S.kp,S.og,by simp [S.sz,N.sz],fun i o a e e'=>?_,fun i i' o o' a e1 e2 w1 w2 e3 e4=>?_,S.pc⟩
 ·rcases cs i o a e e' with ⟨f1,f2⟩ | ⟨j,u,rfl,f2,f3,rfl⟩
  ·obtain ⟨x,y⟩:=S.ob i o a f1 f2
   exact ⟨x.keep pp fun zw zw ex=>ex,y⟩
  ·obtain ⟨z1,z2,z3,z4⟩:=nw j u a f2 f3
   refine ⟨aN.at (G:=h'.get?) (fun zw e=>e) z1,fun zw=>?_⟩
   induction q:G a with
   | none=>rfl
   | some x=>exact absurd (S0.kp _ _ q) (by rw [z4]; exact fun e=>by exact ap e)
 ·rcases cs i o a e1 e3 with ⟨f1,f2⟩ | ⟨j,u,rfl,f2,f3,rfl⟩
  ·rcases cs i' o' a e2 e4 with ⟨g1,g2⟩ | ⟨j',u',rfl,g2,g3,rfl⟩
   ·exact S.nd i i' o o' a f1 g1 w1 w2 f2 g2
   ·obtain ⟨x,ex⟩:=lt i o a f1 f2 w1
    rw [(nw j' u' a g2 g3).2.2.2] at ex; exact ap ex
  ·rcases cs i' o' a e2 e4 with ⟨g1,g2⟩ | ⟨j',u',rfl,g2,g3,rfl⟩
   ·obtain ⟨x,ex⟩:=lt i' o' a g1 g2 w2
    rw [(nw j u a f2 f3).2.2.2] at ex; exact ap ex
   ·have:=N.nd j j' u u' a f2 g2 (nw j u a f2 f3).2.2.1 (nw j' u' a g2 g3).2.2.1 f3 g3
    (first | lia | omega)
end
noncomputable def GB:List AO:=wn 0++[.tup [.loc 3,.int (.v 0),.int (.v 1)]]
theorem B8:aM [5,6,7,8,9] ⟨[],[],GQ,[]⟩ ⟨[],[],GB,[]⟩=some [.ie (.v 3) (.v 3),.ie (.v 4) (.v 4),.ie (.v 5) (.v 5),.ie (.v 6) (.v 6),.ie (.v 7) (.v 7),.ie (.v 8) (.v 8),.ie (.v 9) (.v 9),.ie (.v 10) (.v 10),.ie (.v 2) (.v 2),.ie (.v 0) (.v 0),.ie (.v 1) (.v 1)]:=by kernel_rfl
section
variable {w:World} {A:Around} {gs:Array GenState} {dr:Drawn} {os:OsState} {g:Gr} {F:List Addr} {h:Heap} {n:Nat} {a:Addr} {Vs:List Value} {nds:List Nd}
set_option tactic.hygienic true
theorem Cg (W:Wd w h) (kg:∀a o,g a=some o->h.get? a=some o) (Fo:aT w g F) (It:Items g F a Vs nds) (R:Room A 41) {ρ:Rho} (hρ:∀i,i < 11->ρ.v i=(aB (ad nds) []).v i) {Q:Value->Shared->Prop} {E:Value->Shared->Prop}
  (q:∀V h' n' xs,Co w ρ (OG w g) h.get? h' GB [] xs->Dn ρ xs (.loc 4) V->Q V ⟨h',gs,dr,n',os⟩):wpAny (model pr w) A (call (.ref 595) [.ref a]) Q E ⟨h,gs,dr,n,os⟩:=by
 refine xV W kg Fo It R fun V h' n' as' C dv=>?_
 have C2:=Co.re (s:=⟨[],[],GQ,[]⟩) (s':=⟨[],[],GB,[]⟩) (ρ':=ρ) C [5,6,7,8,9] B8 (by
  exact ⟨(hρ 3 (by (first | decide | lia | omega))).symm,(hρ 4 (by (first | decide | lia | omega))).symm,(hρ 5 (by (first | decide | lia | omega))).symm,(hρ 6 (by (first | decide | lia | omega))).symm,(hρ 7 (by (first | decide | lia | omega))).symm,(hρ 8 (by (first | decide | lia | omega))).symm,(hρ 9 (by (first | decide | lia | omega))).symm,(hρ 10 (by (first | decide | lia | omega))).symm,(hρ 2 (by (first | decide | lia | omega))).symm,(hρ 0 (by (first | decide | lia | omega))).symm,(hρ 1 (by (first | decide | lia | omega))).symm⟩)
 exact q V h' n' _ C2 (bT (ρ:=aB (ad nds) []) (mp:=eX [5,6,7,8,9]) (u:=.loc 4) (l:=[]) (dF rfl) (by kernel_rfl) trivial dv)
set_option tactic.hygienic false
end
noncomputable def OH (g:Gr) (a:Addr) (Vs:List Value):Opq:=⟨g,fun k x=>At g x (.lst Vs)/\x=a/\((k=1/\Vs≠[])\/(k=2/\Vs = [])),fun x h=>⟨Vs,by rcases h.2.2 with z | z; exact z.2; exact absurd z.1 (by decide),h.1⟩,
 fun x h=>by rcases h.2.2 with z | z; exact absurd z.1 (by decide); exact z.2▸h.1⟩
noncomputable def Bt:AO->Bool | .opq k=>k == 1 || k == 2 | _=>false
noncomputable def s9 (ob:List AO) (i:Nat):Bool:=match ob[i]? with | some o=>Bt o | none=>false
noncomputable def LX:Hk:=fun a args ob=>((aZ args).bind AV.l?).bind fun i=>if a == 595 && s9 ob i then some ([],.loc (4 + ob.length),ob++GB.map (AO.shift ob.length)) else none
theorem Af {w:World} {ρ:Rho} {g:Gr} {F:List Addr} {a:Addr} {Vs:List Value} {nds:List Nd} (Fo:aT w g F) (It:Items g F a Vs nds) (hρ:∀i,i < 11->ρ.v i=(aB (ad nds) []).v i):ay w ρ (OH g a Vs) LX 41:=by
 intro f args ob cs v ob' e hcs A gs dr os G h pc n as Us Q Er R S da q
 apply bc;intro ng
 obtain ⟨i,ei,e⟩:=az e
 obtain ⟨u,eu,ei⟩:=az ei
 obtain ⟨hc,e⟩:=cS e
 cases e
 rw [ba eu,bM ei] at da
 obtain ⟨b,hU,x,ex,hx⟩:=da.one
 have hx2:x=a:=by
  have hl:=au hc
  unfold s9 at hl
  induction eo:ob[i]? with
  | none=>rw [eo] at hl; exact bG hl
  | some o =>
   rw [eo] at hl
   induction o using AO.casesOn with
   | opq k=>exact ((S.ob i _ x eo ex).1.2).2.1
   | _=>exact bG hl
 rw [hU,hx,hx2,aD (ag hc)] at ng
 refine ng (Cg S.wd (fun b o e=>S.kp _ _ (S.og _ _ e)) Fo It R hρ fun V h' n' xs N dv=>?_)
 have M:=S.more N rfl
 rw [S.sz] at M
 refine q V h' _ n' M ⟨_,rfl⟩ ?_
 have z:=dv.shift (as:=as)
 rw [S.sz] at z
 exact z
noncomputable def Fu:AO->AO | .fz o=>o | o=>o
noncomputable def un (ob ob':List AO):Nat->List (AV×AV)->List (Nat×Nat)->List (Nat×Nat)
 | 0,_,acc=>acc
 | _,[],acc=>acc
 | n + 1,(.loc i,.loc j)::r,acc=>if (acc.lookup j).isSome then un ob ob' n r acc else
   (match (ob[i]?).map Fu,(ob'[j]?).map Fu with
   | some (.tup vs),some (.tup us)=>un ob ob' n (vs.zip us++r) ((j,i)::acc)
   | some (.lst vs),some (.lst us)=>un ob ob' n (vs.zip us++r) ((j,i)::acc)
   | some (.pl vs),some (.pl us)=>un ob ob' n (vs.zip us++r) ((j,i)::acc)
   | some (.pl vs),some (.lst us)=>un ob ob' n (vs.zip us++r) ((j,i)::acc)
   | some (.ns fs),some (.ns gs)=>un ob ob' n ((fs.map (·.2)).zip (gs.map (·.2))++r) ((j,i)::acc)
   | some (.inst _ a),some (.inst _ b)=>un ob ob' n ((.loc a,.loc b)::r) ((j,i)::acc)
   | _,_=>un ob ob' n r ((j,i)::acc))
 | n + 1,_::r,acc=>un ob ob' n r acc
noncomputable def pd (f f':Fl) (s s':St) (acc:List (Nat×Nat)):List Nat:=match f,f' with
 | .rt v,.rt u=>(List.range s'.ob.length).map fun j=>((un s.ob s'.ob 200 [(v,u)] acc).lookup j).getD 0
 | _,_=>[]
noncomputable def Tr.vcA (acc:List (Nat×Nat)) (f':Fl) (s':St):Tr->VC
 | .leaf f s=>oG (aq (gU (pd f f' s s' acc) f f') (aM (pd f f' s s' acc) s s'))
 | .br c a b=>.br c (a.vcA acc f' s') (b.vcA acc f' s')
 | .req c t=>.req c (t.vcA acc f' s')
 | .fail=>.fail
theorem jL {ρ ρ':Rho} {acc:List (Nat×Nat)} {f':Fl} {s':St}:∀{t:Tr},(t.vcA acc f' s').den ρ ρ'->t.ok ρ fun f s=>∃m l0 l,gU m f f'=some l0/\bD ρ ρ' l0/\aM m s s'=some l/\bD ρ ρ' l
 | .leaf f s,y=>by
  obtain ⟨p,e,y1,y2⟩:=lI (x:=aq (gU (pd f f' s s' acc) f f') (aM (pd f f' s s' acc) s s')) y
  exact ⟨_,p.1,p.2,(ah e).1,y1,(ah e).2,y2⟩
 | .br c a b,y=>⟨fun h=>jL (y.1 h),fun h=>jL (y.2 h)⟩
 | .req c t,y=>⟨y.1,jL y.2⟩
 | .fail,y=>y
section
variable {w:World} {ρ ρ':Rho} {O:Opq} {A:Around} {gs:Array GenState} {dr:Drawn} {os:OsState} {G:Gr} {hk:Hk}
theorem DV {n0 r0:Nat} (H:ay w ρ O hk r0) {f:Addr} {args:List AV} {ob ob':List AO} {vc:VC} {acc:List (Nat×Nat)} {v:AV} (e:(sx w.params hk n0 f args ob).vcA acc (.rt v) ⟨[],[],ob',[]⟩=vc) {h:Heap} {n:Nat} {as:List Addr} {Us:List Value} {Q:Value->Shared->Prop} {E:Value->Shared->Prop} (R:Room A (n0 + r0))
  (S:Co w ρ O G h ob [] as) (da:All2 (Dn ρ as) args Us) (y:vc.den ρ ρ')
  (q:∀V h' xs n',Co w ρ' O G h' ob' [] xs->Dn ρ' xs v V->Q V ⟨h',gs,dr,n',os⟩):wpAny (model pr w) A (call (.ref f) Us) Q E ⟨h,gs,dr,n,os⟩:=by
 rw [<- e] at y
 refine Hl H rfl R S da (Tr.mono ?_ (jL y))
 rintro f s3 zq9 u V h3 as3 n3 zq10 C3 p3 du
 apply bc;intro ng
 obtain ⟨m,l0,l,y1,y2,y3,y4⟩:=zq9
 obtain rfl:=zq10
 apply ng;clear ng
 exact q V h3 _ n3 (C3.re (s':=⟨[],[],ob',[]⟩) m y3 y4) (bT (dF rfl) y1 y2 du)
end
noncomputable def IG:List AO:=[.tup [.int (.v 14),.int (.v 15)],.tup [.int (.v 16),.int (.v 17)],.tup [.int (.v 12),.int (.v 13),.loc 0,.loc 1]]
noncomputable def MX (P:Params):VC:=(sx P aA 40 616 [.loc 3,.int (.v 11)] ((wn 0).map .fz)).vcA [] (.rt (.loc 2)) ⟨[],[],IG,[]⟩
def VC.safe (ρ:Rho):VC->Prop
 | .ok _=>True
 | .br c a b=>(c.den ρ->a.safe ρ)/\(¬c.den ρ->b.safe ρ)
 | .req c t=>c.den ρ/\t.safe ρ
 | .fail=>False
noncomputable def FA (k:Nat) (o:Ob1):Option IE:=o.ie?.bind fun p=>p.2.v?.bind fun j=>match j == k with | true=>some p.1 | false=>none
noncomputable def bv (k:Nat):List Ob1->Option IE
 | []=>none
 | o::r=>(match FA k o with | some a=>some a | none=>bv k r)
theorem FB {k:Nat} {a e:IE} (h:e.v? = some k):FA k (.ie a e)=some a:=by
 show (e.v?.bind fun j=>match j == k with | true=>some a | false=>none)=_
 rw [h,Option.bind_some,beq_self_eq_true]
theorem Fg {k:Nat} {a e:IE} (h:e.v?≠some k):FA k (.ie a e)=none:=by
 show (e.v?.bind fun j=>match j == k with | true=>some a | false=>none)=_
 induction q:e.v? with
 | none=>rfl
 | some j=>rw [Option.bind_some,beq_eq_false_iff_ne.mpr fun z=>h (q.trans (congrArg some z))]
theorem wt {k:Nat} {a e:IE} {r:List Ob1} (h:e.v? = some k):bv k (.ie a e::r)=some a:=by
 show (match FA k (.ie a e) with | some a=>some a | none=>bv k r)=_
 exact aa (FB h) rfl
theorem wz {k:Nat} {a e:IE} {r:List Ob1} (h:e.v?≠some k):bv k (.ie a e::r)=bv k r:=by
 show (match FA k (.ie a e) with | some a=>some a | none=>bv k r)=_
 exact aa (Fg h) rfl
noncomputable def VC.ev (ρ:Rho) (k:Nat):VC->Int
 | .ok l=>match bv k l with | some e=>e.den ρ | none=>0
 | .br c a b=>@ite _ (c.den ρ) (Classical.propDecidable _) (a.ev ρ k) (b.ev ρ k)
 | .req _ t=>t.ev ρ k
 | .fail=>0
theorem mI {ρ:Rho} {k:Nat} {c:CE} {a b:VC} (h:c.den ρ):(VC.br c a b).ev ρ k=a.ev ρ k:=@if_pos _ (Classical.propDecidable _) h _ _ _
theorem sy {ρ:Rho} {k:Nat} {c:CE} {a b:VC} (h:¬c.den ρ):(VC.br c a b).ev ρ k=b.ev ρ k:=@if_neg _ (Classical.propDecidable _) h _ _ _
noncomputable def GR (k:Nat) (r:List Ob1):Bool:=match bv k r with | none=>true | some _=>false
noncomputable def JT (b:Nat) (r:List Ob1) (a:IE) (k:Nat):Bool:=match Nat.ble b k with | true=>GR k r | false=>a.v?.any fun j=>j == k
noncomputable def Lq (b:Nat) (r:List Ob1) (a e:IE):Bool:=match e.v? with
 | some k=>JT b r a k
 | none=>e.c?.any fun n=>a.c?.any fun m=>decide (m=n)
noncomputable def VC.allL (p:List Ob1->Bool):VC->Bool
 | .ok l=>p l
 | .br _ x y=>x.allL p && y.allL p
 | .req _ t=>t.allL p
 | .fail=>true
noncomputable def VC.wf (b:Nat) (t:VC):Bool:=t.allL (jh (Lq b))
theorem tI {k:Nat} {r:List Ob1} (h:GR k r=true):bv k r=none:=by
 unfold GR at h
 induction q:bv k r with | none=>rfl | some _=>rw [q] at h; exact bG h
def AL (b:Nat) (ρ ρ':Rho) (r:List Ob1) (a e:IE):Prop:=(∀k,e.v? = some k->b<=k->bv k r=none)/\((∀k,e.v? = some k->b<=k->ρ'.v k=a.den ρ)->a.den ρ=e.den ρ')
theorem nW {b:Nat} {ρ ρ':Rho} {f:List Ob1->IE->IE->Bool} (hf:∀r a e,f r a e=true->AL b ρ ρ' r a e) {l:List Ob1} (w:jh f l=true) (q:∀k e,b<=k->bv k l=some e->ρ'.v k=e.den ρ):bD ρ ρ' l:=by
 induction l with
 | nil=>trivial
 | cons o r ih =>
  obtain ⟨p,e,w1⟩:=cv (ag w)
  rw [rQ e] at q ⊢
  obtain ⟨f1,f2⟩:=hf _ _ _ w1
  refine bD.cons.mpr (And.intro (f2 fun k ek hb=>q k _ hb (wt ek)) (ih (au w) fun k e' hb el=>q k e' hb ((wz fun ek=>?_).trans el)))
  rw [f1 k ek hb] at el
  exact ap el
theorem Ah {b:Nat} {ρ ρ':Rho} (h:∀i,i < b->ρ.v i=ρ'.v i) (r:List Ob1) (a e:IE) (w:Lq b r a e=true):AL b ρ ρ' r a e:=by
 unfold Lq at w
 induction q:e.v? with
 | some k =>
  rw [q] at w
  have w:JT b r a k=true:=w
  unfold JT at w
  induction hb:Nat.ble b k with
  | true =>
   rw [hb] at w
   exact ⟨fun k' ek zw=>aG (q.symm.trans ek)▸tI w,fun z=>by refine aa (dS q) ?_; exact (z k q (Nat.le_of_ble_eq_true hb)).symm⟩
  | false =>
   rw [hb] at w
   have hb:¬b<=k:=fun z=>bG (hb.symm.trans (Nat.ble_eq_true_of_le z))
   apply bc;intro ng
   obtain ⟨j,e1,w⟩:=cv w
   apply ng;clear ng
   refine ⟨fun k' ek h'=>absurd (aG (q.symm.trans ek)▸h') hb,fun zw=>?_⟩
   refine aa (dS q) (aa (dS e1) (aa (aD w) ?_))
   exact h k (Nat.lt_of_not_le hb)
 | none =>
  rw [q] at w
  apply bc;intro ng
  obtain ⟨n,e1,w⟩:=cv w
  obtain ⟨m,e2,w⟩:=cv w
  apply ng;clear ng
  refine ⟨fun k' ek zw=>ap (q.symm.trans ek),fun zw=>?_⟩
  refine aa (bO e1) (aa (bO e2) ?_); exact of_decide_eq_true w
theorem VC.fillG {b:Nat} {ρ ρ':Rho} {p:List Ob1->Bool} (hp:∀l,p l=true->(∀k e,b<=k->bv k l=some e->ρ'.v k=e.den ρ)->bD ρ ρ' l) {vc:VC} (w:vc.allL p=true) (s:vc.safe ρ) (q:∀k,b<=k->ρ'.v k=vc.ev ρ k):vc.den ρ ρ':=by
 induction vc with
 | ok l=>exact hp l w fun k e hk el=>(q k hk).trans (by unfold VC.ev; exact aa el rfl)
 | br c x y ix iy=>exact ⟨fun hc=>ix (ag w) (s.1 hc) fun k hk=>(q k hk).trans (mI hc),fun hc=>iy (au w) (s.2 hc) fun k hk=>(q k hk).trans (sy hc)⟩
 | req c t ih=>exact ⟨s.1,ih w s.2 q⟩
 | fail=>exact s.elim
theorem VC.fill {b:Nat} {ρ ρ':Rho} (h:∀i,i < b->ρ.v i=ρ'.v i) {vc:VC} (w:vc.wf b=true) (s:vc.safe ρ) (q:∀k,b<=k->ρ'.v k=vc.ev ρ k):vc.den ρ ρ':=VC.fillG (fun zw=>nW (Ah h)) w s q
def VC.leafs (ρ:Rho) (φ:List Ob1->Prop):VC->Prop
 | .ok l=>φ l
 | .br c a b=>(c.den ρ->a.leafs ρ φ)/\(¬c.den ρ->b.leafs ρ φ)
 | .req c t=>c.den ρ->t.leafs ρ φ
 | .fail=>True
theorem VC.leaf {ρ:Rho} {φ:List Ob1->Prop} {vc:VC} (s:vc.safe ρ) (x:vc.leafs ρ φ):∃l,φ l/\∀k,vc.ev ρ k=(match bv k l with | some e=>e.den ρ | none=>0):=by
 induction vc with
 | ok l=>exact ⟨l,x,fun zw=>rfl⟩
 | br c a b ia ib =>
  rcases Classical.em (c.den ρ) with hc | hc
  ·obtain ⟨l,h1,h2⟩:=ia (s.1 hc) (x.1 hc)
   exact ⟨l,h1,fun k=>(mI hc).trans (h2 k)⟩
  ·obtain ⟨l,h1,h2⟩:=ib (s.2 hc) (x.2 hc)
   exact ⟨l,h1,fun k=>(sy hc).trans (h2 k)⟩
 | req c t ih=>exact ih s.2 (x s.1)
 | fail=>exact s.elim
noncomputable def VC.chk (p:List (CE×Bool)->List Ob1->Bool) (pc:List (CE×Bool)):VC->Bool
 | .ok l=>p pc l
 | .br c a b=>a.chk p ((c,true)::pc) && b.chk p ((c,false)::pc)
 | .req c t=>t.chk p ((c,true)::pc)
 | .fail=>true
theorem VC.chk_ok {ρ:Rho} {p:List (CE×Bool)->List Ob1->Bool} {vc:VC}:∀{pc:List (CE×Bool)},vc.chk p pc=true->(∀q∈pc,q.1.den ρ↔q.2=true)->vc.safe ρ->
  ∃l pc',p pc' l=true/\(∀q∈pc',q.1.den ρ↔q.2=true)/\∀k,vc.ev ρ k=(match bv k l with | some e=>e.den ρ | none=>0):=by
 have cn:∀{c:CE} {v:Bool} {pc:List (CE×Bool)},(c.den ρ↔v=true)->(∀q∈pc,q.1.den ρ↔q.2=true)->∀q∈(c,v)::pc,q.1.den ρ↔q.2=true:=fun hc h q m=>by
  cases m with | head=>exact hc | tail _ m=>exact h q m
 induction vc with
 | ok l=>exact fun {pc} c h zw=>⟨l,pc,c,h,fun zw=>rfl⟩
 | br x a b ia ib =>
  intro pc c h s
  rcases Classical.em (x.den ρ) with hc | hc
  ·obtain ⟨l,pc',h1,h2,h3⟩:=ia (ag c) (cn ⟨fun zw=>rfl,fun zw=>hc⟩ h) (s.1 hc)
   exact ⟨l,pc',h1,h2,fun k=>(mI hc).trans (h3 k)⟩
  ·obtain ⟨l,pc',h1,h2,h3⟩:=ib (au c) (cn ⟨fun z=>absurd z hc,fun z=>bG z⟩ h) (s.2 hc)
   exact ⟨l,pc',h1,h2,fun k=>(sy hc).trans (h3 k)⟩
 | req x t ih=>exact fun {pc} c h s=>ih c (cn ⟨fun zw=>rfl,fun zw=>s.1⟩ h) s.2
 | fail=>exact fun zw zw s=>s.elim
noncomputable def Ct (a b c d e f:IE):VC:=.ok [.ie a (.v 14),.ie b (.v 15),.ie c (.v 16),.ie d (.v 17),.ie e (.v 12),.ie f (.v 13)]
noncomputable def vW:IE:=.abs (.v 11)
noncomputable def E5 (q r b s o:IE):VC:=.br (.lt (.c 0) q) (Ct vW q r b s o) (Ct (.neg vW) (.neg q) r b s o)
noncomputable def Ly (q r b s:IE):VC:=.br (.eq q (.c 0)) (Ct (.c 0) (.c 1) r b (.c 0) (.c 0)) (E5 q r b s (.c 0))
noncomputable def ME (q s b:IE):VC:=.br (.lt (.v 11) (.c 0)) (.br (.lt q (.neg (.v 11))) (.br (.eq q (.c 0)) (Ct (.c 0) (.c 1) (.c 3) (.sub (.neg (.v 11)) q) (.c 0) (.c 0)) (Ct (.c 1) (.c 1) (.c 3) (.sub (.neg (.v 11)) q) (.c 2) (.c 0))) (Ly q s b s)) (Ly q s b s)
noncomputable def Nc (x:IE) (k:IE->VC):VC:=.req (.mulok x x) (.req (.mulok (.mul x x) x) (k (.div (.add (.mul (.mul x x) x) (.c 131072)) (.c 262144))))
noncomputable def GO (x:IE) (k:IE->VC):VC:=.br (.lt (.c 1290) x) (k (.c 10000)) (Nc x k)
noncomputable def Ms (q:IE) (k:IE->VC):VC:=.br (.lt vW (.c 0)) .fail (.br (.eq vW (.c 0)) (k (.c 0)) (.br (.le q (.c 0)) (k (.c 10000)) (.br (.le vW (.c 7230584)) (.req (.lt (.c 0) q) (.req (.lt q (.c (2 ^ 200))) (GO (.div (.mul vW (.c 297)) q) k)))
 (.br (.le (.c 1663497) q) (.req (.lt (.c 0) (.div q (.c 297))) (.req (.lt (.div q (.c 297)) (.c (2 ^ 200))) (GO (.div vW (.div q (.c 297))) k))) (GO vW k)))))
noncomputable def Ix (q1 q2 q3 q s:IE):VC:=.br (.eq q3 (.c 0)) (.br (.eq q2 (.c 0)) (.br (.eq q1 (.c 0)) (Ms q (ME q s)) (E5 q1 (.c 0) (.c 0) s (.c 1))) (E5 q2 (.c 0) (.c 0) s (.c 2))) (E5 q3 (.c 0) (.c 0) s (.c 3))
noncomputable def Bu:VC:=.br (.eq (.v 11) (.c 0)) (Ct (.c 0) (.c 1) (.c 0) (.c 0) (.c 0) (.c 0)) (.br (.lt (.c 0) (.v 11)) (Ix (.v 4) (.v 5) (.v 6) (.v 3) (.c 1)) (Ix (.v 8) (.v 9) (.v 10) (.v 7) (.c 2)))
theorem Ax (P:Params):MX P=Bu:=by kernel_rfl
theorem E8:Bu.wf 12=true:=by kernel_rfl
section
variable {t:Tot} {e:Int}
theorem Mc {x:Int} (h0:0<=x) (h1:¬1290 < x) (y:Int):IntMulOk x y/\IntMulOk y x:=by
 have:Builtin.Int.intBits x<=64:=jR (by (first | lia | omega))
 exact ⟨IntMulOk.of_left this,IntMulOk.of_right this⟩
section
variable {ρ:Rho}
theorem pB {q r b s o:IE}:(E5 q r b s o).safe ρ:=⟨fun zw=>trivial,fun zw=>trivial⟩
theorem yQ {q r b s:IE}:(Ly q r b s).safe ρ:=⟨fun zw=>trivial,fun zw=>pB⟩
theorem FD {q s b:IE}:(ME q s b).safe ρ:=⟨fun zw=>⟨fun zw=>⟨fun zw=>trivial,fun zw=>trivial⟩,fun zw=>yQ⟩,fun zw=>yQ⟩
theorem rv {x:IE} {k:IE->VC} (hx:0<=x.den ρ) (hk:∀b,(k b).safe ρ):(GO x k).safe ρ:=⟨fun zw=>hk _,fun h=>⟨(Mc hx h _).1,(Mc hx h _).2,hk _⟩⟩
theorem De {q:IE} {k:IE->VC} (hq:q.den ρ < 2 ^ 100) (hk:∀b,(k b).safe ρ):(Ms q k).safe ρ:=by
 have hm:0<=vW.den ρ:=by show 0<=(if ρ.v 11 < 0 then -ρ.v 11 else ρ.v 11); split <;> (first | lia | omega)
 have hb:(2:Int) ^ 100<=2 ^ 200:=by decide
 refine ⟨fun h=>absurd h (Int.not_lt.mpr hm),fun zw=>⟨fun zw=>hk _,fun zw=>⟨fun zw=>hk _,fun h=>?_⟩⟩⟩
 have h:0 < q.den ρ:=Int.not_le.mp h
 refine ⟨fun zw=>⟨h,Int.lt_of_lt_of_le hq hb,rv (Int.ediv_nonneg (Int.mul_nonneg hm (show (0:Int)<=297 by decide)) (Int.le_of_lt h)) hk⟩,fun zw=>⟨fun h2=>⟨?_,?_,rv (Int.ediv_nonneg hm (Int.ediv_nonneg (Int.le_of_lt h) (show (0:Int)<=297 by decide))) hk⟩,fun zw=>rv hm hk⟩⟩
 ·have h2:1663497<=q.den ρ:=h2; show 0 < q.den ρ / 297; (first | lia | omega)
 ·exact Int.lt_of_le_of_lt (Int.ediv_le_self _ (Int.le_of_lt h)) (Int.lt_of_lt_of_le hq hb)
theorem zB {q1 q2 q3 q s:IE} (hq:q.den ρ < 2 ^ 100):(Ix q1 q2 q3 q s).safe ρ:=⟨fun zw=>⟨fun zw=>⟨fun zw=>De hq fun zw=>FD,fun zw=>pB⟩,fun zw=>pB⟩,fun zw=>pB⟩
end
theorem ot (h0:t.s0 < 2 ^ 100) (h1:t.r0 < 2 ^ 100):Bu.safe (aB t [e]):=⟨fun zw=>trivial,fun zw=>⟨fun zw=>zB h0,fun zw=>zB h1⟩⟩
noncomputable def bg (t:Tot) (e:Int) (k:Nat):Int:=Bu.ev (aB t [e]) k
theorem w7 (t:Tot):bg t 0 12=0/\bg t 0 13=0/\bg t 0 14=0/\bg t 0 15=1/\bg t 0 16=0/\bg t 0 17=0:=by
 unfold bg Bu
 refine ⟨?_,?_,?_,?_,?_,?_⟩ <;> exact (mI (by rfl)).trans rfl
noncomputable def HN (k:Nat):Bool:=Nat.ble 3 k && Nat.ble k 10
noncomputable def LD (pc:List (CE×Bool)) (x y:IE):Bool:=match y.c? with
 | some b=>x.c?.any fun a=>decide (a.natAbs<=1) && decide (b=1)
 | none=>(match y.v? with
  | some k=>HN k && (x.abs?.bind IE.v? == some 11) && (zK pc (.lt (.c 0) (.v k)) == some true)
  | none=>(y.neg?.bind IE.v?).any fun k=>HN k && ((x.neg?.bind IE.abs?).bind IE.v? == some 11) && (zK pc (.lt (.c 0) (.v k)) == some false) && (zK pc (.eq (.v k) (.c 0)) == some false))
noncomputable def MR (pc:List (CE×Bool)) (l:List Ob1):Bool:=(aq (bv 14 l) (bv 15 l)).any fun p=>LD pc p.1 p.2
theorem AQ:Bu.chk MR []=true:=by kernel_rfl
theorem uM {k:Nat} (h:HN k=true):3<=k/\k<=10:=⟨Nat.le_of_ble_eq_true (ag h),Nat.le_of_ble_eq_true (au h)⟩
theorem BQ {m b:Int} (h : -b < m/\m < b) : -b < (if m < 0 then -m else m)/\(if m < 0 then -m else m) < b:=by split <;> omega
theorem xv (hs:∀k,3<=k->k<=10->-(2 ^ 90) < (aB t [e]).v k/\(aB t [e]).v k < 2 ^ 90) (he : -(2 ^ 59) < e/\e < 2 ^ 59):1<=bg t e 15/\bg t e 15 < 2 ^ 100/\(bg t e 14).natAbs < 2 ^ 60:=by
 simp only [Int.reducePow,Nat.reducePow] at hs he ⊢
 have s3:t.s0 < _:=(hs 3 (by decide) (by decide)).2
 have s7:t.r0 < _:=(hs 7 (by decide) (by decide)).2
 have sf:Bu.safe (aB t [e]):=ot (by omega) (by omega)
 apply bc;intro ng
 obtain ⟨l,pc,h1,h2,h3⟩:=VC.chk_ok AQ (fun q m=>nomatch m) sf
 have ge:∀{k:Nat} {a:IE},bv k l=some a->bg t e k=a.den (aB t [e]):=fun {k a} z=>(h3 k).trans (by exact aa z rfl)
 have lk:∀{c:CE} {b:Bool},(zK pc c == some b)=true->(c.den (aB t [e])↔b=true):=fun e=>h2 _ (pt (aD e))
 obtain ⟨⟨x,y⟩,ep,h1⟩:=cv h1
 apply ng;clear ng
 refine aa (ge (ah ep).1) (aa (ge (ah ep).2) ?_)
 have h1:LD pc x y=true:=h1
 clear ep ge h2 h3 sf s3 s7
 have a11:=BQ he
 unfold LD at h1
 induction q:y.c? with
 | some b =>
  rw [q] at h1
  apply bc;intro ng
  obtain ⟨a,ea,h1⟩:=cv h1
  apply ng;clear ng
  refine aa (bO q) (aa (bO ea) ?_)
  have h3:=of_decide_eq_true (ag h1)
  have h4:=of_decide_eq_true (au h1)
  show 1<=b/\b < _/\a.natAbs < _
  omega
 | none =>
  rw [q] at h1
  induction q2:y.v? with
  | some k =>
   rw [q2] at h1
   apply bc;intro ng
   obtain ⟨i1,i2⟩:=uM (ag (ag h1))
   have b:=hs k i1 i2
   obtain ⟨z,ez,ev⟩:=az (aD (au (ag h1)))
   apply ng;clear ng
   refine aa (dS q2) (aa (oW ez) (aa (dS ev) ?_))
   have g:0 < (aB t [e]).v k:=(lk (au h1)).mpr rfl
   show 1<=(aB t [e]).v k/\(aB t [e]).v k < _/\Int.natAbs (if e < 0 then -e else e) < _
   omega
  | none =>
   rw [q2] at h1
   apply bc;intro ng
   obtain ⟨k,ek,h1⟩:=cv h1
   obtain ⟨y',ey,ek⟩:=az ek
   obtain ⟨i1,i2⟩:=uM (ag (ag (ag h1)))
   have b:=hs k i1 i2
   obtain ⟨z,ez,ev⟩:=az (aD (au (ag (ag h1))))
   obtain ⟨z',ez',ez⟩:=az ez
   apply ng;clear ng
   refine aa (oR ey) (aa (dS ek) (aa (oR ez') (aa (oW ez) (aa (dS ev) ?_))))
   have g:¬0 < (aB t [e]).v k:=fun z=>bG ((lk (au (ag h1))).mp z)
   have g':¬(aB t [e]).v k=0:=fun z=>bG ((lk (au h1)).mp z)
   show 1<=-((aB t [e]).v k)/\-((aB t [e]).v k) < _/\Int.natAbs (-(if e < 0 then -e else e)) < _
   omega
end
section
set_option backward.match.sparseCases false
noncomputable def nv (o:Obj):Option (List Value):=if o.cls == .type "tuple" then (match o.data with | .seq vs _=>some vs.toList | _=>none) else none
noncomputable def xJ (P:Params) (v:AV):Option (List AV):=((v.g?.bind eS).bind fun a=>(K P).lookup a).bind fun o=>(nv o).map fun vs=>vs.map jD
noncomputable def FW (P:Params) (v:AV) (s:St) (k:Nat->St->Tr):Tr:=match v.l? with
 | some i=>k i s
 | none=>aS (xJ P v) fun vs=>k s.ob.length { s with ob:=s.ob++[.fz (.tup vs)] }
noncomputable def m0 (s:St) (v:AV):Option Nat:=((v.l?.bind s.at).bind AO.il?).bind fun p=>match p.2 with | []=>some p.1 | _=>none
noncomputable def j3 (s:St) (v:AV):Option Nat:=(v.l?.bind s.at).bind AO.rf?
noncomputable def lH (s:St) (v:AV):Option (List (Int×AV)):=(v.l?.bind s.at).bind AO.dc?
noncomputable def cN (x y:Nat):Nat:=2 * x + y
noncomputable def t7 (a b:AV) (s:St) (k:AV->St->Tr):Tr :=
 dg (aq a.s? b.s?) (fun p=>bN (decide (p.1.length + p.2.length<=1000)) (k (.str (p.1++p.2)) s)) <|
 dg (aq (m0 s a) (m0 s b)) (fun p=>.req (.icat (cN p.1 p.2) p.1 p.2) (mk (.il (cN p.1 p.2) []) s k)) <|
 dg (aq (j3 s a) (j3 s b)) (fun p=>.req (.icat (cN p.1 p.2) p.1 p.2) (mk (.rf (cN p.1 p.2)) s k)) <|
 dg (aq (j3 s a) (((lstAt s b).bind aZ).bind fun v=>v.g?.bind eS)) (fun p=>.req (.iref (cN p.1 999) p.1 p.2) (mk (.rf (cN p.1 999)) s k)) <|
 uw .Add a b s k
noncomputable def sI (op:Operator) (a b:AV) (s:St) (k:AV->St->Tr):Tr:=match op with
 | .Add=>t7 a b s k
 | .Pow=>aS (aq a.c? b.c?) fun p=>bN (decide (0<=p.2) && decide (p.2<=1000) && decide (p.1.natAbs < 2 ^ 60)) (k (.int (.c (p.1 ^ p.2.toNat))) s)
 | .Mod=>dg (aq a.c? b.c?) (fun p=>bN (decide (0 < p.2)) (k (.int (.c (p.1 % p.2))) s)) (uw .Mod a b s k)
 | op=>uw op a b s k
noncomputable def iG (f:Nat->Option AO):Nat->List (AV×AV)->Option (List (IE×IE))
 | 0,_=>none
 | _ + 1,[]=>some []
 | n + 1,p::r=>(match aq p.1.i? p.2.i? with
  | some q=>(iG f n r).map (q :: ·)
  | none=>(aq p.1.l? p.2.l?).bind fun q=>if q.1=q.2 then iG f n r else
    (aq ((f q.1).bind AO.tup?) ((f q.2).bind AO.tup?)).bind fun t=>if t.1.length=t.2.length then aq (iG f n (t.1.zip t.2)) (iG f n r) |>.map fun z=>z.1++z.2 else none)
noncomputable def Bz:List (IE×IE)->Tr->Tr
 | [],t=>t
 | p::r,t=>.req (.eq p.1 p.2) (Bz r t)
noncomputable def xq (a b:AV) (s:St) (k:Bool->St->Tr) (t:Tr):Tr :=
 dg (aq (m0 s a) (m0 s b)) (fun p=>.req (.ieq p.1 p.2) (k true s)) <|
 dg (aq (j3 s a) ((lstAt s b).bind fun vs=>match vs with | []=>some () | _=>none)) (fun p=>s.ask (.emp p.1) k) <|
 dg ((aq (tupAt s a) (tupAt s b)).bind fun t=>if t.1.length=t.2.length then iG s.at 60 (t.1.zip t.2) else none) (fun l=>Bz l (k true s)) t
noncomputable def fw (ps:List (Int×AV)) (n:Int):Bool:=ps.any fun p=>decide (p.1=n)
noncomputable def ss (op:CmpOp) (a b:AV) (s:St) (k:Bool->St->Tr):Tr:=match op with
 | .Eq=>xq a b s k (gN .Eq a b s k)
 | .NotEq=>xq a b s (fun c=>k (!c)) (gN .NotEq a b s k)
 | .In=>aS (aq a.c? (lH s b)) fun p=>k (fw p.2 p.1) s
 | .NotIn=>aS (aq a.c? (lH s b)) fun p=>k (!fw p.2 p.1) s
 | op=>gN op a b s k
noncomputable def jG (ps:List (Int×AV)) (n:Int):Option AV:=(ps.find? fun p=>decide (p.1=n)).map (·.2)
noncomputable def m9 (a i:AV) (s:St) (k:AV->St->Tr):Tr :=
 dg (aq a.s? i.c?) (fun p=>aS ((seqIndex? p.2 p.1.length).bind (p.1.cps[·]?)) fun c=>bN (decide (p.2.natAbs < 2 ^ 60)) (k (.str ⟨#[c]⟩) s)) <|
 dg (aq (lH s a) i.c?) (fun p=>aS (jG p.1 p.2) fun v=>k v s) <|
 dg (aq (m0 s a) i.c?) (fun p=>bN (decide (p.2 = -1)) (.req (.last p.1 (.v (p.1 + 500))) (k (.int (.v (p.1 + 500))) s))) <|
 kZ a i s k
noncomputable def pj (ps:List (Int×AV)) (n:Int) (v:AV):List (Int×AV):=if fw ps n then ps.map (fun p=>if p.1=n then (p.1,v) else p) else ps++[(n,v)]
noncomputable def gK (a i v:AV) (s:St) (k:St->Tr):Tr :=
 dg (a.l?.bind fun j=>((s.ob[j]?.bind AO.dc?)).bind fun ps=>i.c?.map fun n=>(j,ps,n)) (fun q=>bN (decide (q.2.1.length < 100)) (k { s with ob:=s.ob.set q.1 (.dc (pj q.2.1 q.2.2 v)) })) (f8 a i v s k)
noncomputable def Nv (lo hi:Option IE):Nat:=match lo,hi with | none,none=>0 | some _,none=>1 | none,some _=>2 | some _,some _=>3
noncomputable def GE (a:Nat) (lo hi:Option IE):Nat:=10 * a + Nv lo hi
noncomputable def nD (a:AV) (lo hi:Option IE) (s:St) (k:AV->St->Tr):Tr :=
 dg (m0 s a) (fun b=>.req (.isl (GE b lo hi) b lo hi) (mk (.il (GE b lo hi) []) s k)) <|
 dg (j3 s a) (fun b=>.req (.isl (GE b lo hi) b lo hi) (mk (.rf (GE b lo hi)) s k)) <|
 dg (lstAt s a) (fun vs=>aS (aq (lo.map IE.c?) (hi.map IE.c?)) fun zw=>.fail) <|
 aS (tupAt s a) fun vs=>aS (aq (match lo with | some l=>l.c? | none=>some 0) (hi.bind IE.c?)) fun p =>
  bN (decide (0<=p.1) && decide (p.1<=p.2) && decide (p.2<=vs.length) && decide (p.2 - p.1 < vs.length) && decide (vs.length < 100)) (mk (.tup ((vs.drop p.1.toNat).take (p.2.toNat - p.1.toNat))) s k)
noncomputable def f9 (f:AV) (v:Value):Bool:=match f.g? with | some u=>u == v | none=>false
noncomputable def ze (P:Params) (a:AV) (s:St) (k:AV->St->Tr):Tr:=FW P a s fun i s =>
 dg (j3 s (.loc i)) (fun b=>.req (.ilen b 0) (mk (.rf b) s k)) <|
 dg (lstAt s (.loc i)) (fun vs=>bN (decide (vs.length < 100)) (mk (.lst vs) s k)) <|
 aS (tupAt s (.loc i)) fun vs=>bN (decide (vs.length < 100)) (mk (.lst vs) s k)
noncomputable def zT (P:Params) (a:AV) (s:St) (k:AV->St->Tr) (t:Tr):Tr :=
 dg (tupAt s a) (fun zw=>k a s) <| dg (xJ P a) (fun zw=>k a s) t
noncomputable def BK (a:AV) (t:Value) (s:St):Bool:=(a.s?.isSome && t == .type "str") || ((tupAt s a).isSome && t == .type "tuple")
noncomputable def Cu (b:Nat):IE:=.fn 900 (.c b) (.c 0) (.c 0)
noncomputable def nE (P:Params) (hk:Hk) (r:Rc) (f:AV) (args:List AV) (s:St) (k:AV->St->Tr):Tr :=
 fP (f9 f (.type "list")) (aS (aZ args) fun a=>ze P a s k) <|
 fP (f9 f (.type "tuple")) (aS (aZ args) fun a=>zT P a s k (jq P hk r f args s k)) <|
 fP (f9 f (.builtin "len")) (aS (aZ args) fun a=>dg (j3 s a) (fun b=>.req (.ln b (Cu b)) (k (.int (Cu b)) s)) <| FW P a s fun i s=>jq P hk r f [.loc i] s k) <|
 fP (f9 f (.type "int")) (aS ((aZ args).bind AV.b?) fun b=>k (.int (.c (if b then 1 else 0))) s) <|
 fP (f9 f (.type "dict")) (aS ((aZ args).bind fun a=>lH s a) fun ps=>bN (decide (ps.length < 100)) (mk (.dc ps) s k)) <|
 fP (f9 f (.builtin "isinstance")) (dg ((eA args).bind fun p=>p.2.g?.bind fun t=>if BK p.1 t s then some () else none) (fun zw=>k (.bool true) s) (jq P hk r f args s k)) <|
 jq P hk r f args s k
noncomputable def uA (r:Rc) (sc:Scope) (e:Option Expr) (s:St) (k:Option IE->St->Tr):Tr:=match e with
 | none=>k none s
 | some e=>r.E sc e s fun v s=>aS v.i? fun i=>k (some i) s
noncomputable def j7 : Expr->Option (Option Expr×Option Expr) | .Slice lo hi none _=>some (lo,hi) | _=>none
noncomputable def tn (P:Params) (r:Rc) (sc:Scope) (e:Expr) (s:St) (k:AV->St->Tr):Tr:=match e with
 | .BinOp a op b _=>r.E sc a s fun x s=>r.E sc b s fun y s=>sI op x y s k
 | .Compare a ops cs p=>(match aq (aZ ops) (aZ cs) with
  | some q=>if behindInMarks q.1 q.2 then .fail else r.E sc a s fun x s=>r.E sc q.2 s fun y s=>ss q.1 x y s fun c s=>k (.bool c) s
  | none=>nY P r sc (.Compare a ops cs p) s k)
 | .Subscript o i _=>(match j7 i with
  | some q=>r.E sc o s fun ov s=>uA r sc q.1 s fun lo s=>uA r sc q.2 s fun hi s=>nD ov lo hi s k
  | none=>if cu i then .fail else r.E sc o s fun ov s=>r.E sc i s fun iv s=>m9 ov iv s k)
 | .Dict ks vs _=>bN (ks.isEmpty && vs.isEmpty) (mk (.dc []) s k)
 | e=>nY P r sc e s k
noncomputable def ui (r:Rc) (sc:Scope) (e:Expr) (s:St) (k:Bool->St->Tr):Tr:=match e with
 | .Compare a ops cs p=>(match aq (aZ ops) (aZ cs) with
  | some q=>if behindInMarks q.1 q.2 then .fail else r.E sc a s fun x s=>r.E sc q.2 s fun y s=>ss q.1 x y s k
  | none=>stepT r sc (.Compare a ops cs p) s k)
 | e=>stepT r sc e s k
set_option backward.match.sparseCases true in
noncomputable def bp (sc:Scope) (ts:List Expr):List Str :=
 let line:=(ts.head?.map (·.pos.line)).getD 0
 ts.filterMap fun | .Name id pos=>if sc.names.lookup id == some .local && pos.line == line then some id else none | _=>none
noncomputable def i6 (r:Rc) (sc:Scope) (t:Expr) (body:List Stmt) (k:Fl->St->Tr):Nat->St->Tr
 | 0,_=>.fail
 | n + 1,s=>r.T sc t s fun c s=>if c then qm r sc body s fun f s=>(match f with | .nx | .ct=>i6 r sc t body k n s | .bk=>k .nx s | .rt v=>k (.rt v) s) else k .nx s
noncomputable def lJ (P:Params) (r:Rc) (sc:Scope) (elts es:List Expr) (e:Expr) (s:St) (k:St->Tr):Tr :=
 bN (elts.all cM && (elts.length == 2 || elts.length == 3) && es.length == elts.length && !(es.any aK)) <|
  if (bp sc elts).length=elts.length then
   bN ((bp sc elts).eraseDups.length == (bp sc elts).length && !(es.all (foldedForSure 8)) && !(es.all (constantsAlone 8))) <|
    r.E sc e s fun v s=>aS (tupAt s v) fun vs=>bN (decide (vs.length=elts.length)) (xStoreN sc (bp sc elts).reverse vs.reverse s k)
  else r.E sc e s fun v s=>aS (tupAt s v) fun vs=>bN (decide (vs.length=elts.length)) (dD P r sc elts vs s k)
where xStoreN (sc:Scope):List Str->List AV->St->(St->Tr)->Tr
 | [],[],s,k=>k s
 | x::xs,v::vs,s,k=>bZ sc x v s fun s=>xStoreN sc xs vs s k
 | _,_,_,_=>.fail
noncomputable def Du (P:Params) (r:Rc) (sc:Scope) (t:Option Expr) (ts:List Expr) (e:Expr) (p:Pos) (s:St) (k:Fl->St->Tr):Tr:=match t with
 | some (.Tuple elts _ _)=>(match tup? e with
  | some es=>if iA e then lJ P r sc elts es e s (fun s=>k .nx s) else iH P r sc (.Assign ts e p) s k
  | none=>iH P r sc (.Assign ts e p) s k)
 | some (.Subscript o i _)=>if dH e then .fail else r.E sc e s fun v s=>r.E sc o s fun ov s=>r.E sc i s fun iv s=>gK ov iv v s fun s=>k .nx s
 | _=>iH P r sc (.Assign ts e p) s k
noncomputable def rL (P:Params) (r:Rc) (sc:Scope) (b:Stmt) (s:St) (k:Fl->St->Tr):Tr:=match b with
 | .Assign ts e p=>Du P r sc (aZ ts) ts e p s k
 | .While t body els _=>bN els.isEmpty (i6 r sc t body k 40 s)
 | .For tg it body els _=>aS (iL tg) fun x=>bN (els.isEmpty && !cp it) <| r.E sc it s fun v s=>FW P v s fun j s =>
   dg (lstAt s (.loc j)) (fun zw=>lZ r sc x body s.ob.length k 40 { s with ob:=s.ob++[.lit j 0] }) <|
   aS (tupAt s (.loc j)) fun zw=>lZ r sc x body s.ob.length k 40 { s with ob:=s.ob++[.tit j 0] }
 | b=>iH P r sc b s k
noncomputable def Gq (P:Params) (hk:Hk) (r:Rc):Rc:=⟨tn P r,ui r,rL P r,nE P hk r⟩
noncomputable def fS (P:Params) (hk:Hk):Nat->Rc
 | 0=>nil
 | n + 1=>Gq P hk (fS P hk n)
noncomputable def cx (P:Params) (hk:Hk) (n:Nat) (sc:Scope) (bs:List Stmt) (s:St):Tr:=qm (fS P hk n) sc bs s fun f s=>.leaf f { s with pc:=[] }
noncomputable def bA (P:Params) (hk:Hk) (n:Nat) (sc:Scope) (e:Expr) (s:St):Tr:=(fS P hk n).E sc e s fun v s=>.leaf (.rt v) { s with pc:=[] }
noncomputable def lG (P:Params) (hk:Hk) (n:Nat) (sc:Scope) (e:Expr) (s:St):Tr:=(fS P hk n).T sc e s fun c s=>.leaf (.rt (.bool c)) { s with pc:=[] }
end
section
open PySem PySem.W PyProof.Rows PySem.Calls Builtin Builtin.ObjectAttr
set_option tactic.hygienic true
theorem Ec {e:Expr} {q:Option Expr×Option Expr} (h:j7 e=some q):∃p,e = .Slice q.1 q.2 none p:=by
 cases e <;> try (exact ap h)
 rename_i lo hi st p
 cases st with
 | none=>cases h; exact ⟨p,rfl⟩
 | some _=>cases h
set_option tactic.hygienic false
section
variable {ρ:Rho} {O:Opq} {h:Heap} {s:St} {as:List Addr} (T:EJ ρ O h s as) {v:AV} {V:Value}
include T
theorem eO {b:Nat} (e:m0 s v=some b) (d:Dn ρ as v V):∃x Vs,V = .ref x/\IntsAre Vs (ρ.l b)/\h.IsList x Vs.toArray:=by
 apply bc;intro ng
 obtain ⟨p,e1,e2⟩:=az e
 obtain ⟨o,e3,e4⟩:=az e1
 obtain ⟨x,rfl,z⟩:=lA T e3 d
 rw [o9 e4] at z
 obtain ⟨Vs,z1,z2⟩:=z
 obtain ⟨b',es⟩:=p
 apply ng;clear ng
 induction es using List.casesOn with
 | cons=>exact ap e2
 | nil =>
  cases e2
  rw [List.map_nil,List.append_nil] at z1
  exact ⟨x,Vs,rfl,z1,z2.pl⟩
theorem dI {b:Nat} (e:j3 s v=some b) (d:Dn ρ as v V):∃x,V = .ref x/\h.IsList x ((ρ.l b).map ak).toArray:=by
 apply bc;intro ng
 obtain ⟨o,e3,e4⟩:=az e
 obtain ⟨x,rfl,z⟩:=lA T e3 d
 apply ng;clear ng
 rw [kL e4] at z
 exact ⟨x,rfl,At.pl z⟩
theorem jV {ps:List (Int×AV)} (e:lH s v=some ps) (d:Dn ρ as v V):∃x kvs,V = .ref x/\All2 (Kv ρ as) ps kvs/\eT h.get? x kvs:=by
 apply bc;intro ng
 obtain ⟨o,e3,e4⟩:=az e
 obtain ⟨x,rfl,z⟩:=lA T e3 d
 rw [sW e4] at z
 obtain ⟨Vs,z1,z2⟩:=z
 apply ng;clear ng
 exact ⟨x,Vs,rfl,z1,z2⟩
end
theorem eT.of {h:Heap} {x:Addr} {kvs:List (Int×Value)} (z:eT h.get? x kvs) (w:World):h.DictOf (intKind pr w) x kvs:=by
 apply bc;intro ng
 obtain ⟨-,o,e,q⟩:=z
 obtain ⟨es,ep,r⟩:=q w
 apply ng;clear ng
 exact ⟨o,es,ep,e,r⟩
theorem yz {w w':World} {es:List DictEntry} {kvs:List (Int×Value)} (x:Pairs (intKind pr w) es kvs):Pairs (intKind pr w') es kvs:=by
 induction x with
 | nil=>exact .nil
 | cons h1 h2 _ ih=>exact .cons h1 h2 ih
theorem eT.mk {h:Heap} {x:Addr} {kvs:List (Int×Value)} {w:World} (n:(x == sysModules)=false) (z:h.DictOf (intKind pr w) x kvs):eT h.get? x kvs:=by
 obtain ⟨o,es,ep,e,r⟩:=z
 exact ⟨n,o,e,fun w'=>⟨es,ep,r.1,r.2.1,r.2.2.1,yz r.2.2.2.1,r.2.2.2.2⟩⟩
theorem Kv.find {ρ:Rho} {as:List Addr} {ps:List (Int×AV)} {kvs:List (Int×Value)} (x:All2 (Kv ρ as) ps kvs) (n:Int):match jG ps n with
  | some v=>∃V,valueAt kvs n=some V/\Dn ρ as v V
  | none=>valueAt kvs n=none:=by
 unfold jG valueAt
 induction x with
 | nil=>rfl
 | @cons p q l m h _ ih =>
  refine aa (List.find?_cons) (aa (List.find?_cons) (aa (Eq.symm h.1) ?_))
  by_cases c:p.1=n
  ·refine aa (decide_eq_true c) ?_; exact ⟨q.2,rfl,h.2⟩
  ·refine aa (decide_eq_false c) ?_; exact ih
theorem qt {ps:List (Int×AV)} {n:Int}:fw ps n=(jG ps n).isSome:=by
 unfold fw jG
 refine aa Option.isSome_map ?_
 induction ps with
 | nil=>rfl
 | cons p r ih =>
  refine aa List.any_cons (aa (List.find?_cons) (aa ih ?_))
  cases decide (p.1=n) <;> rfl
theorem Kv.has {ρ:Rho} {as:List Addr} {ps:List (Int×AV)} {kvs:List (Int×Value)} (x:All2 (Kv ρ as) ps kvs) (n:Int):(valueAt kvs n).isSome=fw ps n:=by
 have z:=Kv.find x n
 refine aa qt ?_
 induction e:jG ps n with
 | none=>rw [e] at z; refine aa z ?_; rfl
 | some v=>rw [e] at z; obtain ⟨V,z,-⟩:=z; refine aa z ?_; rfl
theorem Kv.put {ρ:Rho} {as:List Addr} {ps:List (Int×AV)} {kvs:List (Int×Value)} (x:All2 (Kv ρ as) ps kvs) {n:Int} {v:AV} {V:Value} (d:Dn ρ as v V):All2 (Kv ρ as) (pj ps n v) (stored kvs n V):=by
 have e:(kvs.any fun kv=>decide (kv.1=n))=fw ps n:=by
  unfold fw
  clear d
  induction x with
  | nil=>rfl
  | cons h _ ih=>exact aa List.any_cons (aa List.any_cons (aa ih (aa h.1 rfl)))
 unfold pj stored
 refine aa e ?_
 induction fw ps n with
 | true =>
  refine aa (if_pos rfl) (aa (if_pos rfl) ?_)
  refine x.map' fun p q h=>?_
  refine aa h.1 ?_
  by_cases c:q.1=n
  ·refine aa (if_pos c) (aa (if_pos c) ?_); exact ⟨rfl,d⟩
  ·refine aa (if_neg c) (aa (if_neg c) ?_); exact h
 | false =>
  refine aa (if_neg Bool.false_ne_true) (aa (if_neg Bool.false_ne_true) ?_)
  exact x.app (.cons ⟨rfl,d⟩ .nil)
noncomputable def slV {α:Type} (l:List α) (lo hi:Option Int):List α:=((match hi with | some y=>l.take y.toNat | none=>l)).drop ((lo.getD 0).toNat)
theorem mf {Vs:List Value} {lo hi:Option Int} (h0:Gx lo) (h1:Gx hi):slicePick Vs.toArray lo hi none=(slV Vs lo hi).toArray:=by
 rw [kms_pick_eq]
 congr 1
 unfold kms_pick slV
 induction lo with
 | none =>
  induction hi with
  | none=>simp [kms_lo,kms_hi]
  | some y =>
   have h1:0<=y:=h1
   simp only [kms_lo,kms_hi,if_neg (show ¬y < 0 by (first | lia | omega)),Option.getD_none,List.drop_zero,Nat.sub_zero,Int.toNat_zero]
   by_cases hy:y.toNat<=Vs.length
   ·exact aa (Nat.min_eq_left hy) rfl
   ·exact aa (Nat.min_eq_right (by (first | lia | omega))) (aa (List.take_of_length_le (by simp)) (aa (List.take_of_length_le (l:=Vs) (by (first | lia | omega))) rfl))
 | some x =>
  have h0:0<=x:=h0
  induction hi with
  | none =>
   simp only [kms_lo,kms_hi,if_neg (show ¬x < 0 by (first | lia | omega)),Option.getD_some]
   by_cases hx:x.toNat<=Vs.length
   ·exact aa (Nat.min_eq_left hx) (aa (List.take_of_length_le (by simp)) rfl)
   ·refine aa (Nat.min_eq_right (by (first | lia | omega))) (aa (List.drop_of_length_le (by simp)) (aa (List.drop_of_length_le (l:=Vs) (by (first | lia | omega))) ?_)); simp
  | some y =>
   have h1:0<=y:=h1
   simp only [kms_lo,kms_hi,if_neg (show ¬x < 0 by (first | lia | omega)),if_neg (show ¬y < 0 by (first | lia | omega)),Option.getD_some,List.drop_take]
   by_cases hx:x.toNat<=Vs.length
   ·refine aa (Nat.min_eq_left hx) ?_
    by_cases hy:y.toNat<=Vs.length
    ·exact aa (Nat.min_eq_left hy) rfl
    ·exact aa (Nat.min_eq_right (by (first | lia | omega))) (aa (List.take_of_length_le (by simp)) (aa (List.take_of_length_le (by simp; (first | lia | omega))) rfl))
   ·refine aa (Nat.min_eq_right (show Vs.length<=x.toNat by (first | lia | omega))) (aa (List.drop_of_length_le (by simp)) (aa (List.drop_of_length_le (l:=Vs) (by (first | lia | omega))) ?_)); simp
theorem IntsAre.slV {Vs:List Value} {ns:List Int} (x:IntsAre Vs ns) (lo hi:Option Int):IntsAre (Mine.slV Vs lo hi) (DB ns lo hi):=by
 unfold Mine.slV DB
 induction hi with
 | none=>exact x.drop _
 | some y=>exact (x.take _).drop _
theorem xK {ns:List Int} {f:Int->Value} (lo hi:Option Int):slV (ns.map f) lo hi=(DB ns lo hi).map f:=by
 unfold slV DB
 induction hi with
 | none=>simp [List.map_drop]
 | some y=>simp [List.map_drop,List.map_take]
end
section
open PySem PySem.W PyProof.Rows PySem.Calls Builtin Builtin.ObjectAttr PySem.SeqAt
section
variable {w:World} {ρ:Rho} {O:Opq} {G:Gr} {env:Env} {h h':Heap} {s s':St} {as:List Addr} {A:Around} {E:Value->Shared->Prop} {gs:Array GenState} {dr:Drawn} {n:Nat} {os:OsState} {post:Fl->St->Prop}
theorem Co.hat {pc:List (CE×Bool)} (S:Co w ρ O G h s.ob pc as):EJ ρ O h s as:=fun i o e=>S.at e
theorem SR.newI (S:SR w ρ O G env h s as) {Vs:List Value} {c:Nat} (hi:IntsAre Vs (ρ.l c)):SR w ρ O G env (h.push { cls:=.type "list",data:=.seq Vs.toArray }) { s with ob:=s.ob++[.il c []] } (as++[h.objs.size]) :=
 S.push _ ⟨Vs,by rw [List.map_nil,List.append_nil]; exact hi,_,Heap.get?_push_size _ rfl,_,rfl⟩
theorem SR.newR (S:SR w ρ O G env h s as) {Vs:List Value} {c:Nat} (hi:Vs=(ρ.l c).map ak):SR w ρ O G env (h.push { cls:=.type "list",data:=.seq Vs.toArray }) { s with ob:=s.ob++[.rf c] } (as++[h.objs.size]) :=
 S.push _ ⟨_,Heap.get?_push_size _ rfl,_,by exact aa hi rfl⟩
theorem SR.lastD (S:SR w ρ O G env h s as) {x:Addr}:Dn ρ (as++[x]) (.loc s.ob.length) (.ref x):=⟨x,by refine aa (Eq.symm S.sz) ?_; exact aX,rfl⟩
set_option tactic.hygienic true
theorem uH {a b:AV} {k:AV->St->Tr} {V U:Value} {Q:Value->Shared->Prop} (y:(t7 a b s k).ok ρ post) (S:SR w ρ O G env h s as) (d:Dn ρ as a V) (d':Dn ρ as b U)
  (q:∀v V s' h' as' n',(k v s').ok ρ post->SR w ρ O G env h' s' as'->Pre as as'->Dn ρ as' v V->Q V ⟨h',gs,dr,n',os⟩):wpAny (model pr w) A (binaryOp .Add V U) Q E ⟨h,gs,dr,n,os⟩:=by
 unfold t7 at y
 rcases aU y with ⟨p,e,y⟩ | y
 ·obtain ⟨e1,e2⟩:=ah e
  rw [nu e1] at d; rw [nu e2] at d'
  apply bc;intro ng
  obtain ⟨t,rfl⟩:=d; obtain ⟨u,rfl⟩:=d'
  obtain ⟨c,y⟩:=aj y
  apply ng;clear ng
  have c:=of_decide_eq_true c
  exact add_str (s:=⟨h,gs,dr,n,os⟩) (fun t' tk=>q _ _ _ _ _ _ y S .refl ⟨_,rfl⟩) (by refine aa sizeLine_eq ?_; (first | lia | omega))
 rcases aU y with ⟨p,e,y⟩ | y
 ·obtain ⟨e1,e2⟩:=ah e
  apply bc;intro ng
  obtain ⟨x,Vs,rfl,i1,l1⟩:=eO S.hat e1 d
  obtain ⟨z,Us,rfl,i2,l2⟩:=eO S.hat e2 d'
  obtain ⟨⟨c1,c2,c3⟩,y⟩:=y
  apply ng;clear ng
  refine u5 (n:=n) l1 l2 (by have:=i1.length; have:=i2.length; (first | lia | omega)) ?_
  exact q _ _ _ _ _ _ y (S.newI (by refine aa c1 ?_; exact i1.append i2)) ⟨_,rfl⟩ S.lastD
 rcases aU y with ⟨p,e,y⟩ | y
 ·obtain ⟨e1,e2⟩:=ah e
  apply bc;intro ng
  obtain ⟨x,rfl,l1⟩:=dI S.hat e1 d
  obtain ⟨z,rfl,l2⟩:=dI S.hat e2 d'
  obtain ⟨⟨c1,c2,c3⟩,y⟩:=y
  apply ng;clear ng
  refine u5 (n:=n) l1 l2 (by simp; (first | lia | omega)) ?_
  exact q _ _ _ _ _ _ y (S.newR (by exact aa c1 (aa List.map_append rfl))) ⟨_,rfl⟩ S.lastD
 rcases aU y with ⟨p,e,y⟩ | y
 ·obtain ⟨e1,e2⟩:=ah e
  apply bc;intro ng
  obtain ⟨v,e3,e4⟩:=az e2
  obtain ⟨vs,e5,e6⟩:=az e3
  obtain ⟨u,e7,e8⟩:=az e4
  obtain ⟨x,rfl,l1⟩:=dI S.hat e1 d
  obtain ⟨z,Us,rfl,a2,l2⟩:=eB S.hat e5 d'
  apply ng;clear ng
  rw [ba e6,m5 e7,rT e8] at a2
  cases a2; rename_i d1 a2; cases a2
  have d1:_=_:=d1
  subst d1
  apply bc;intro ng
  obtain ⟨⟨c1,c2⟩,y⟩:=y
  apply ng;clear ng
  refine u5 (n:=n) l1 l2 (by simp; (first | lia | omega)) ?_
  exact q _ _ _ _ _ _ y (S.newR (by refine aa c1 (aa List.map_append ?_); rfl)) ⟨_,rfl⟩ S.lastD
 ·exact hY y S d d' q
set_option tactic.hygienic false
theorem ma {op:Operator} {a b:AV} {k:AV->St->Tr} {V U:Value} {Q:Value->Shared->Prop} (y:(sI op a b s k).ok ρ post) (S:SR w ρ O G env h s as) (d:Dn ρ as a V) (d':Dn ρ as b U)
  (q:∀v V s' h' as' n',(k v s').ok ρ post->SR w ρ O G env h' s' as'->Pre as as'->Dn ρ as' v V->Q V ⟨h',gs,dr,n',os⟩):wpAny (model pr w) A (binaryOp op V U) Q E ⟨h,gs,dr,n,os⟩:=by
 induction op using Operator.casesOn with
 | Add=>exact uH y S d d' q
 | Pow =>
  obtain ⟨p,e,y⟩:=af (o:=aq a.c? b.c?) y
  obtain ⟨e1,e2⟩:=ah e
  rw [jj e1] at d; rw [jj e2] at d'
  obtain ⟨t,rfl⟩:=d; obtain ⟨u,rfl⟩:=d'
  obtain ⟨c,y⟩:=aj y
  simp only [Bool.and_eq_true,decide_eq_true_eq] at c
  exact pow_int_small (s:=⟨h,gs,dr,n,os⟩) c.1.1 (show p.2<=1000000 by omega) (show p.1.natAbs < 2 ^ 64 by omega) (q _ _ _ _ _ _ y S .refl ⟨_,rfl⟩)
 | Mod =>
  rcases aU (o:=aq a.c? b.c?) y with ⟨p,e,y⟩ | y
  ·obtain ⟨e1,e2⟩:=ah e
   rw [jj e1] at d; rw [jj e2] at d'
   obtain ⟨t,rfl⟩:=d; obtain ⟨u,rfl⟩:=d'
   obtain ⟨c,y⟩:=aj y
   exact zk (show 0 < p.2 from of_decide_eq_true c) fun t n'=>q _ _ _ _ _ n' y S .refl ⟨t,rfl⟩
  ·exact hY y S d d' q
 | _=>exact hY y S d d' q
theorem d7 (S:SR w ρ O G env h s as):∀(m:Nat) {ps:List (AV×AV)} {l:List (IE×IE)},iG s.at m ps=some l->(∀p∈l,p.1.den ρ=p.2.den ρ)->∀(A:Around),A.units + m < cLine->∀p∈ps,∀V U,Dn ρ as p.1 V->Dn ρ as p.2 U->EqAt A ⟨h,gs,dr,n,os⟩ V U true
 | 0,_,_,e,_,_,_=>by exact ap e
 | m + 1,[],_,_,_,_,_=>fun p mp=>nomatch mp
 | m + 1,p::r,l,e,hl,A,hu=>by
  unfold iG at e
  have hu':A.units + m < cLine:=by (first | lia | omega)
  induction e1:aq p.1.i? p.2.i? with
  | some q =>
   rw [e1] at e
   apply bc;intro ng
   obtain ⟨l',e2,rfl⟩:=Option.map_eq_some_iff.mp e
   obtain ⟨z1,z2⟩:=ah e1
   apply ng;clear ng
   intro p' mp V U d d'
   cases mp with
   | head =>
    rw [cO z1] at d; rw [cO z2] at d'
    apply bc;intro ng
    obtain ⟨t,rfl⟩:=d; obtain ⟨u,rfl⟩:=d'
    apply ng;clear ng
    have:=EqAt.int_int (A:=A) (s:=⟨h,gs,dr,n,os⟩) (q.1.den ρ) t (q.2.den ρ) u
    rw [hl q (.head _),beq_self_eq_true] at this
    refine aa (hl q (.head _)) ?_; exact this
   | tail _ mp=>exact d7 S m e2 (fun p mp=>hl p (.tail _ mp)) A hu' p' mp V U d d'
  | none =>
   rw [e1] at e
   apply bc;intro ng
   obtain ⟨q,e2,e⟩:=az e
   obtain ⟨z1,z2⟩:=ah e2
   apply ng;clear ng
   by_cases hq:q.1=q.2
   ·rw [if_pos hq] at e
    intro p' mp V U d d'
    cases mp with
    | head =>
     rw [bM z1] at d; rw [bM z2,<- hq] at d'
     apply bc;intro ng
     obtain ⟨x,ex,rfl⟩:=d; obtain ⟨x',ex',rfl⟩:=d'
     apply ng;clear ng
     rw [ex] at ex'; cases ex'
     exact EqAt.same _
    | tail _ mp=>exact d7 S m e hl A hu' p' mp V U d d'
   ·rw [if_neg hq] at e
    apply bc;intro ng
    obtain ⟨t,e3,e⟩:=az e
    obtain ⟨y1,y2⟩:=ah e3
    apply ng;clear ng
    by_cases hlen:t.1.length=t.2.length
    ·rw [if_pos hlen] at e
     apply bc;intro ng
     obtain ⟨lz,e4,rfl⟩:=Option.map_eq_some_iff.mp e
     obtain ⟨x1,x2⟩:=ah e4
     apply ng;clear ng
     intro p' mp V U d d'
     cases mp with
     | head =>
      rw [bM z1] at d; rw [bM z2] at d'
      apply bc;intro ng
      obtain ⟨x,ex,rfl⟩:=d; obtain ⟨x',ex',rfl⟩:=d'
      obtain ⟨o1,f1,f2⟩:=az y1
      obtain ⟨o2,g1,g2⟩:=az y2
      obtain ⟨a1,b1,c1⟩:=S.at f1
      obtain ⟨a2,b2,c2⟩:=S.at g1
      rw [ex] at b1; cases b1
      rw [ex'] at b2; cases b2
      rw [cX f2] at c1; rw [cX g2] at c2
      obtain ⟨Vs,v1,v2⟩:=c1
      obtain ⟨Us,u1,u2⟩:=c2
      apply ng;clear ng
      by_cases hx:x=x'
      ·subst hx; exact EqAt.same _
      ·have n1:=v1.len; have n2:=u1.len
       have z:=RcAt.tuples (A:=A) (s:=⟨h,gs,dr,n,os⟩) (e:=fun zw=>true) (items:=Vs.toArray) (items2:=Us.toArray) v2 u2 (by (first | lia | omega)) fun j h1 h2=>by
        have j1:j < Vs.length:=by simpa using h1
        have j2:j < Us.length:=by simpa using h2
        apply bc;intro ng
        obtain ⟨v,w1,w2⟩:=v1.rget (List.getElem?_eq_getElem j1)
        obtain ⟨u,w3,w4⟩:=u1.rget (List.getElem?_eq_getElem j2)
        apply ng;clear ng
        refine d7 S m x1 (fun p mp=>hl p (List.mem_append_left _ mp)) A.in1 (by show A.units + 1 + m < _; (first | lia | omega)) (v,u) ?_ _ _ w2 w4
        exact List.mem_iff_getElem?.mpr ⟨j,by rw [List.getElem?_zip_eq_some]; exact ⟨w1,w3⟩⟩
       have e5:((List.range (min Vs.toArray.size Us.toArray.size)).all (fun zw=>true) && Vs.toArray.size == Us.toArray.size)=true:=by
        simp; (first | lia | omega)
       rw [e5] at z
       exact EqAt.of_refs hx z
     | tail _ mp=>exact d7 S m x2 (fun p mp=>hl p (List.mem_append_right _ mp)) A hu' p' mp V U d d'
    ·rw [if_neg hlen] at e; exact ap e
end
end
section
open PySem PySem.W PyProof.Rows PySem.Calls Builtin Builtin.ObjectAttr PySem.SeqAt
noncomputable def GL (op:CmpOp) (b:Bool):Bool:=match op with | .Eq=>b | _=>!b
theorem kl {A:Around} {s:Shared}:∀{Vs Us:List Value} {ns:List Int},IntsAre Vs ns->IntsAre Us ns->∀j (h1:j < Vs.length) (h2:j < Us.length),EqAt A s Vs[j] Us[j] true
 | _,_,_,.nil,_,j,h1,_=>absurd h1 (Nat.not_lt_zero j)
 | _,_,_,.cons a t x,.cons _ u y,0,_,_=>by
  have z:=EqAt.int_int (A:=A) (s:=s) a t a u
  rw [beq_self_eq_true] at z; exact z
 | _,_,_,.cons _ _ x,.cons _ _ y,j + 1,h1,h2=>kl x y j (Nat.lt_of_succ_lt_succ h1) (Nat.lt_of_succ_lt_succ h2)
section
variable {w:World} {ρ:Rho} {O:Opq} {G:Gr} {env:Env} {h h':Heap} {s s':St} {as:List Addr} {A:Around} {E:Value->Shared->Prop} {gs:Array GenState} {dr:Drawn} {n:Nat} {os:OsState} {post:Fl->St->Prop}
theorem iX {op:CmpOp} (ho:op = .Eq\/op = .NotEq) {x z:Addr} {Vs Us:List Value} {st:Shared} {Q:Value->Shared->Prop} (hu:A.units < cLine) (l1:st.heap.IsList x Vs.toArray) (l2:st.heap.IsList z Us.toArray) (e:Vs.length=Us.length)
  (he:∀j (h1:j < Vs.length) (h2:j < Us.length),EqAt A.in1 st Vs[j] Us[j] true) (q:Q (.bool (GL op true)) st):wpAny (model pr w) A (compareOp op (.ref x) (.ref z)) Q E st:=by
 have a:∀m,((List.range m).all fun zw=>true)=true:=fun m=>by simp
 rcases ho with rfl | rfl
 ·exact PySem.EqBoolInt.of_rc (RcAt.lists (e:=fun zw=>true) l1 l2 (by simpa using e) hu fun j h1 h2=>he j h1 h2) (by rw [a]; exact q)
 ·exact PySem.EqBoolInt.of_rcne (RcNeAt.lists (e:=fun zw=>true) l1 l2 (by simpa using e) hu fun j h1 h2=>he j h1 h2) (by rw [a]; exact q)
theorem wI {op:CmpOp} (ho:op = .Eq\/op = .NotEq) {x z:Addr} {Vs Us:List Value} {st:Shared} {Q:Value->Shared->Prop} (hu:A.units < cLine) (l1:st.heap.IsList x Vs.toArray) (l2:st.heap.IsList z Us.toArray) (e:Vs.length≠Us.length)
  (q:Q (.bool (GL op false)) st):wpAny (model pr w) A (compareOp op (.ref x) (.ref z)) Q E st:=by
 rcases ho with rfl | rfl
 ·exact PySem.EqBoolInt.of_rc (RcAt.lists_lengths l1 l2 (by simpa using e) hu) q
 ·exact PySem.EqBoolInt.of_rcne (RcNeAt.lists_lengths l1 l2 (by simpa using e) hu) q
theorem pg {op:CmpOp} (ho:op = .Eq\/op = .NotEq) {x z:Addr} {Vs Us:List Value} {st:Shared} {Q:Value->Shared->Prop} (hu:A.units < cLine) (l1:IsTup st.heap x Vs.toArray) (l2:IsTup st.heap z Us.toArray) (e:Vs.length=Us.length)
  (he:∀j (h1:j < Vs.length) (h2:j < Us.length),EqAt A.in1 st Vs[j] Us[j] true) (q:Q (.bool (GL op true)) st):wpAny (model pr w) A (compareOp op (.ref x) (.ref z)) Q E st:=by
 have a:((List.range (min Vs.toArray.size Us.toArray.size)).all (fun zw=>true) && Vs.toArray.size == Us.toArray.size)=true:=by simp [e]
 rcases ho with rfl | rfl
 ·exact PySem.EqBoolInt.of_rc (RcAt.tuples (e:=fun zw=>true) l1 l2 hu fun j h1 h2=>he j h1 h2) (by refine aa a ?_; exact q)
 ·exact PySem.EqBoolInt.of_rcne (RcNeAt.tuples (e:=fun zw=>true) l1 l2 hu fun j h1 h2=>he j h1 h2) (by refine aa a ?_; exact q)
theorem on {t:Tr}:∀{l:List (IE×IE)},(Bz l t).ok ρ post->(∀p∈l,p.1.den ρ=p.2.den ρ)/\t.ok ρ post
 | [],y=>⟨fun zw m=>(nomatch m),y⟩
 | p::r,y=>by
  obtain ⟨y1,y2⟩:=on (l:=r) y.2
  exact ⟨fun c m=>by cases m with | head=>exact y.1 | tail _ m=>exact y1 c m,y2⟩
theorem oK {op:CmpOp} (ho:op = .Eq\/op = .NotEq) {a b:AV} {k:Bool->St->Tr} {t:Tr} {V U:Value} {Q:Value->Shared->Prop} (hu:A.units + 70 < cLine) (y:(xq a b s k t).ok ρ post) (S:SR w ρ O G env h s as) (d:Dn ρ as a V) (d':Dn ρ as b U)
  (q:∀c s' n',(k c s').ok ρ post->SR w ρ O G env h s' as->Q (.bool (GL op c)) ⟨h,gs,dr,n',os⟩) (z:t.ok ρ post->wpAny (model pr w) A (compareOp op V U) Q E ⟨h,gs,dr,n,os⟩):wpAny (model pr w) A (compareOp op V U) Q E ⟨h,gs,dr,n,os⟩:=by
 have hu':A.units < cLine:=Nat.lt_of_le_of_lt (Nat.le_add_right _ _) hu
 unfold xq at y
 rcases aU y with ⟨p,e,y⟩ | y
 ·obtain ⟨e1,e2⟩:=ah e
  apply bc;intro ng
  obtain ⟨x,Vs,rfl,i1,l1⟩:=eO S.hat e1 d
  obtain ⟨z,Us,rfl,i2,l2⟩:=eO S.hat e2 d'
  apply ng;clear ng
  have c:ρ.l p.1=ρ.l p.2:=y.1
  rw [<- c] at i2
  exact iX ho (st:=⟨h,gs,dr,n,os⟩) hu' l1 l2 (i1.length.trans i2.length.symm) (fun j h1 h2=>kl i1 i2 j h1 h2) (q _ _ _ y.2 S)
 rcases aU y with ⟨p,e,y⟩ | y
 ·obtain ⟨e1,e2⟩:=ah e
  apply bc;intro ng
  obtain ⟨vs,e3,e4⟩:=az e2
  obtain ⟨x,rfl,l1⟩:=dI S.hat e1 d
  obtain ⟨z,Us,rfl,i2,l2⟩:=eB S.hat e3 d'
  apply ng;clear ng
  cases i2 with
  | cons=>exact ap e4
  | nil =>
   refine eE S y fun c s' hc y S'=>?_
   have hc:ρ.l p.1 = []↔c=true:=hc
   induction c with
   | true =>
    rw [hc.mpr rfl] at l1
    exact iX ho (st:=⟨h,gs,dr,n,os⟩) hu' l1 l2 rfl (fun j h1 zw=>absurd h1 (Nat.not_lt_zero j)) (q _ _ _ y S')
   | false =>
    refine wI ho (st:=⟨h,gs,dr,n,os⟩) hu' l1 l2 (fun e=>Bool.false_ne_true (hc.mp ?_)) (q _ _ _ y S')
    rw [List.length_map] at e
    exact List.eq_nil_of_length_eq_zero e
 rcases aU y with ⟨l,e,y⟩ | y
 ·obtain ⟨t',e1,e2⟩:=az e
  apply bc;intro ng
  obtain ⟨e3,e4⟩:=ah e1
  apply ng;clear ng
  by_cases hl:t'.1.length=t'.2.length
  ·rw [if_pos hl] at e2
   apply bc;intro ng
   obtain ⟨x,Vs,rfl,i1,l1⟩:=bB S.hat e3 d
   obtain ⟨z,Us,rfl,i2,l2⟩:=bB S.hat e4 d'
   obtain ⟨y1,y2⟩:=on y
   apply ng;clear ng
   refine pg ho (st:=⟨h,gs,dr,n,os⟩) hu' l1 l2 (i1.len.symm.trans (hl.trans i2.len)) (fun j h1 h2=>?_) (q _ _ _ y2 S)
   apply bc;intro ng
   obtain ⟨v,w1,w2⟩:=i1.rget (List.getElem?_eq_getElem h1)
   obtain ⟨u,w3,w4⟩:=i2.rget (List.getElem?_eq_getElem h2)
   apply ng;clear ng
   refine d7 S 60 e2 y1 A.in1 (by show A.units + 1 + 60 < _; (first | lia | omega)) (v,u) ?_ _ _ w2 w4
   exact List.mem_iff_getElem?.mpr ⟨j,by rw [List.getElem?_zip_eq_some]; exact ⟨w1,w3⟩⟩
  ·rw [if_neg hl] at e2; exact ap e2
 ·exact z y
theorem kP {op:CmpOp} {a b:AV} {k:Bool->St->Tr} {V U:Value} {Q:Value->Shared->Prop} (hu:A.units + 70 < cLine) (y:(ss op a b s k).ok ρ post) (S:SR w ρ O G env h s as) (d:Dn ρ as a V) (d':Dn ρ as b U)
  (q:∀c s' n',(k c s').ok ρ post->SR w ρ O G env h s' as->Q (.bool c) ⟨h,gs,dr,n',os⟩):wpAny (model pr w) A (compareOp op V U) Q E ⟨h,gs,dr,n,os⟩:=by
 have hu':A.units < cLine:=Nat.lt_of_le_of_lt (Nat.le_add_right _ _) hu
 have dc:∀{p:Int×List (Int×AV)},aq a.c? (lH s b)=some p->∃t x kvs,V = .int p.1 t/\U = .ref x/\h.DictOf (intKind pr w) x kvs/\(valueAt kvs p.1).isSome=fw p.2 p.1/\(x == sysModules)=false:=fun {p} e=>by
  apply bc;intro ng
  obtain ⟨e1,e2⟩:=ah e
  rw [jj e1] at d
  obtain ⟨t,rfl⟩:=d
  obtain ⟨x,kvs,rfl,i1,l1⟩:=jV S.hat e2 d'
  apply ng;clear ng
  exact ⟨t,x,kvs,rfl,rfl,l1.of w,Kv.has i1 _,l1.1⟩
 induction op using CmpOp.casesOn with
 | Eq=>exact oK (.inl rfl) hu y S d d' q fun y=>dL hu' y S d d' q
 | NotEq=>exact oK (k:=fun c=>k (!c)) (t:=gN .NotEq a b s k) (.inr rfl) hu y S d d' (fun c s' n' y S=>q (!c) s' n' y S) fun y=>dL hu' y S d d' q
 | In =>
  apply bc;intro ng
  obtain ⟨p,e,y⟩:=af (o:=aq a.c? (lH s b)) y
  obtain ⟨t,x,kvs,rfl,rfl,l1,l2,l3⟩:=dc e
  apply ng;clear ng
  exact wpAny_in_of (s:=⟨h,gs,dr,n,os⟩) (intKind_is _ _ _ _) l3 l1.mapOf (by refine aa l2 ?_; exact q _ _ _ y S)
 | NotIn =>
  apply bc;intro ng
  obtain ⟨p,e,y⟩:=af (o:=aq a.c? (lH s b)) y
  obtain ⟨t,x,kvs,rfl,rfl,l1,l2,l3⟩:=dc e
  apply ng;clear ng
  exact wpAny_notIn_of (s:=⟨h,gs,dr,n,os⟩) (intKind_is _ _ _ _) l3 l1.mapOf (by refine aa l2 ?_; exact q _ _ _ y S)
 | _=>exact dL hu' y S d d' q
end
end
section
open PySem PySem.W PyProof.Rows PySem.Calls Builtin Builtin.ObjectAttr PySem.SeqAt
def EV (ρ:Rho) (e:Option IE) (V:Value):Prop:=match e with | none=>V = .none | some e=>∃t,V = .int (e.den ρ) t
theorem EV.part {ρ:Rho} {e:Option IE} {V:Value} (d:EV ρ e V):IsPart V (e.map (IE.den ρ)):=by
 induction e with
 | none=>subst d; exact .none
 | some e=>obtain ⟨t,rfl⟩:=d; exact .int _ _
theorem vJ {prog:Program} {w:World} {A:Around} {E:Value->Shared->Prop} {s:Shared} {V:Value} {o:Option Int} {Q:Option Int->Shared->Prop} (p:IsPart V o) (h:Q o s):wpAny (model prog w) A (Builtin.Slice.slicePartIndex V) Q E s:=by
 induction p with
 | none=>exact slicePart_none h
 | int=>exact slicePart_int h
theorem qi {prog:Program} {w:World} {A:Around} {E:Value->Shared->Prop} {s:Shared} {t sl:Addr} {items:Array Value} {vl:Value} {lo:Option Int} {a b:Nat} {u:Tok} {Q:Value->Shared->Prop} (ht:IsTup s.heap t items)
  (hs:s.heap.IsSliceOf sl vl (.int b u) .none) (hl:IsPart vl lo) (ha:lo.getD 0=(a:Int)) (hab:a<=b) (hb:b<=items.size) (hn:b - a < items.size)
  (h:Q (.ref s.heap.objs.size) { s with heap:=s.heap.push { cls:=.type "tuple",data:=.seq ((items.toList.drop a).take (b - a)).toArray } })
  (hsz:items.size<=sizeLine):wpAny (model prog w) A (getItem (.ref t) (.ref sl)) Q E s:=by
 have hz:sizeOk (.seq ((items.toList.drop a).take (b - a)).toArray):=by
  show ((items.toList.drop a).take (b - a)).toArray.size<=sizeLine
  refine aa List.size_toArray (aa List.length_take ?_)
  (first | decide | lia | omega)
 have e1:Builtin.Slice.sliceAdjust lo (some (b:Int)) 1 (items.size:Int)=((a:Int),(b:Int)):=by
  unfold Builtin.Slice.sliceAdjust
  induction lo with
  | none=>have ha:(0:Int)=a:=ha; simp; (first | decide | lia | omega)
  | some x=>have ha:x=a:=ha; simp; (first | decide | lia | omega)
 have e2:Builtin.Slice.slicePlaces (a:Int) (b:Int) 1=b - a:=by
  unfold Builtin.Slice.slicePlaces
  have h1:(1:Int) > 0:=by (first | decide | lia | omega)
  simp only [h1,if_true,Int.ediv_one]
  split <;> (first | decide | lia | omega)
 apply bc;intro ng
 obtain ⟨os,hos,hcs,hds⟩:=id hs
 apply ng;clear ng
 have hTs:s.TypeIs (.ref sl) "slice":=⟨os,hos,hcs⟩
 unfold getItem
 try with_reducible refine wpAny_holding ?_
 refine wpAny_bind (wpAny_sequenceKey ht.typeIs (by decide) ?_)
 refine wpAny_bind (wpAny_callSpecial?_slot (name:=Str.ofString "__getitem__") ht.typeIs slot_tuple_getitem
  (wpAny_call_entry slot_tuple_getitem ht.typeIs entry_tuple_getitem ?_ (args_tuple_getitem _ _)))
 show wpAny _ _ (Builtin.Tuple.tupleItemsOf (.ref t) >>= _) _ _ s
 refine wpAny_bind (tupleItemsOf_ ht ?_)
 refine wpAny_bind (wpAny_typeOf hTs ?_)
 refine aa (if_pos (by decide)) ?_
 refine wpAny_bind ?_
 unfold Builtin.Slice.sliceApplied Builtin.Slice.sliceFields
 refine wpAny_bind (wpAny_bind (wpAny_field hos hds (x:=vl) rfl (wpAny_bind (wpAny_field hos hds (x:=.int b u) rfl (wpAny_bind (wpAny_field hos hds (x:=.none) rfl (wpAny_pure ?_)))))))
 refine wpAny_bind (slicePart_none ?_)
 show wpAny _ _ (if ((1:Int) == 0)=true then _ else _) _ _ s
 refine aa (if_neg (by decide)) ?_
 refine wpAny_bind (vJ hl (wpAny_bind (slicePart_int (wpAny_bind (wpAny_pure ?_)))))
 show wpAny _ _ (match Builtin.Slice.sliceAdjust lo (some (b:Int)) 1 (items.size:Int) with | (lo,hi)=>pure (lo,(1:Int),Builtin.Slice.slicePlaces lo hi 1)) _ _ s
 refine aa e1 ?_
 show wpAny _ _ (pure ((a:Int),(1:Int),Builtin.Slice.slicePlaces (a:Int) (b:Int) 1)) _ _ s
 refine aa e2 ?_
 refine wpAny_pure ?_
 have hno:¬(((a:Int) == 0 && (1:Int) == 1 && (b - a) == items.size)=true):=by
  have:((b - a) == items.size)=false:=by rw [beq_eq_false_iff_ne]; (first | decide | lia | omega)
  refine aa this ?_; simp
 have e3:((List.range (b - a)).filterMap fun (k:Nat)=>items[((a:Int) + (k:Int) * 1).toNat]?).toArray=((items.toList.drop a).take (b - a)).toArray:=by
  have e:(fun (k:Nat)=>items[((a:Int) + (k:Int) * 1).toNat]?)=fun k=>items[a + k]?:=by
   funext k
   have:((a:Int) + (k:Int) * 1).toNat=a + k:=by (first | decide | lia | omega)
   exact aa this rfl
  refine aa e ?_
  have:=pick_run items a (b - a)
  rw [List.filterMap_map] at this
  have e2:((fun x=>items[x]?) ∘ fun x=>a + x)=fun k=>items[a + k]?:=rfl
  rw [e2] at this
  exact aa this rfl
 show wpAny _ _ (if ((a:Int) == 0 && (1:Int) == 1 && (b - a) == items.size)=true then _ else _) _ _ s
 refine aa (if_neg hno) (aa e3 ?_)
 first
  | exact wpAny_bind (m:=Builtin.Tuple.tupleExact _) (wpAny_newObj_type (wpAny_pure ⟨_,rfl,wpAny_pure h⟩) hz)
  | exact wpAny_bind (m:=Builtin.Tuple.tupleExact _) (wpAny_newObj_type (wpAny_bind (wpAny_pure (wpAny_pure ⟨_,rfl,wpAny_pure h⟩))) hz)
  | exact wpAny_bind (wpAny_bind (m:=Builtin.Tuple.tupleExact _) (wpAny_newObj_type (wpAny_pure (wpAny_pure ⟨_,rfl,wpAny_pure h⟩)) hz))
  | exact wpAny_bind (wpAny_bind (m:=Builtin.Tuple.tupleExact _) (wpAny_newObj_type (wpAny_pure ⟨_,rfl,wpAny_pure h⟩) hz))
section
variable {w:World} {ρ:Rho} {O:Opq} {G:Gr} {env:Env} {h h':Heap} {s s':St} {as:List Addr} {A:Around} {E:Value->Shared->Prop} {gs:Array GenState} {dr:Drawn} {n:Nat} {os:OsState} {post:Fl->St->Prop}
theorem SR.newT (S:SR w ρ O G env h s as) {vs:List AV} {Vs:List Value} (d:All2 (Dn ρ as) vs Vs):SR w ρ O G env (h.push { cls:=.type "tuple",data:=.seq Vs.toArray }) { s with ob:=s.ob++[.tup vs] } (as++[h.objs.size]) :=
 S.push _ ⟨Vs,d.mono fun zw zw z=>z.pre ⟨_,rfl⟩,_,Heap.get?_push_size _ rfl,rfl,_,rfl⟩
theorem qV {value slice:Expr} {a i:AV} {V U:Value} {k:AV->St->Tr} {Q:Value->Shared->Prop} (hs:cu slice=false) (y:(m9 a i s k).ok ρ post) (S:SR w ρ O G env h s as) (d:Dn ρ as a V) (d':Dn ρ as i U)
  (q:∀v V s' n',(k v s').ok ρ post->SR w ρ O G env h s' as->Dn ρ as v V->Q V ⟨h,gs,dr,n',os⟩):wpAny (model pr w) A (subscriptTail value slice V U) Q E ⟨h,gs,dr,n,os⟩:=by
 unfold m9 at y
 rcases aU y with ⟨p,e,y⟩ | y
 ·obtain ⟨e1,e2⟩:=ah e
  rw [nu e1] at d; rw [jj e2] at d'
  apply bc;intro ng
  obtain ⟨t,rfl⟩:=d; obtain ⟨u,rfl⟩:=d'
  obtain ⟨c,ec,y⟩:=af y
  obtain ⟨hb,y⟩:=aj y
  apply ng;clear ng
  have hb:=of_decide_eq_true hb
  refine tail_any (s:=⟨h,gs,dr,n,os⟩) (typeIs_str _ _ _) slot_str_getitem.lookup (PyProof.Rows.getItem_str ?_ ec (q _ _ _ _ y S ⟨_,rfl⟩)) (dG hs _ _)
  simp only [Bool.or_eq_false_iff,decide_eq_false_iff_not]
  show ¬p.2 < _/\¬p.2 ≥ _
  (first | decide | lia | omega)
 rcases aU y with ⟨p,e,y⟩ | y
 ·obtain ⟨e1,e2⟩:=ah e
  apply bc;intro ng
  obtain ⟨x,kvs,rfl,i1,l1⟩:=jV S.hat e1 d
  rw [jj e2] at d'
  obtain ⟨u,rfl⟩:=d'
  obtain ⟨v,ev,y⟩:=af y
  have z:=Kv.find i1 p.2
  rw [ev] at z
  obtain ⟨X,z1,z2⟩:=z
  apply ng;clear ng
  exact tail_any (s:=⟨h,gs,dr,n,os⟩) (l1.of w).typeIs slot_dict_getitem.lookup (wpAny_getItem_of (s:=⟨h,gs,dr,n,os⟩) (intKind_is _ _ _ _) (l1.of w).mapOf z1 (q _ _ _ _ y S z2)) (dG hs _ _)
 rcases aU y with ⟨p,e,y⟩ | y
 ·obtain ⟨e1,e2⟩:=ah e
  apply bc;intro ng
  obtain ⟨x,Vs,rfl,i1,l1⟩:=eO S.hat e1 d
  rw [jj e2] at d'
  obtain ⟨u,rfl⟩:=d'
  obtain ⟨c,y⟩:=aj y
  have c:p.2 = -1:=of_decide_eq_true c
  obtain ⟨⟨c1,c2⟩,y⟩:=y
  have ll:=i1.length
  rw [List.getLast?_eq_getElem?] at c1
  obtain ⟨t,x1⟩:=i1.get _ _ c1
  apply ng;clear ng
  have l0:(ρ.l p.1).length - 1 < (ρ.l p.1).length:=(List.getElem?_eq_some_iff.mp c1).1
  show wpAny _ _ (subscriptTail value slice (.ref x) (.int p.2 u)) _ _ _
  refine aa c ?_
  refine tail_any (s:=⟨h,gs,dr,n,os⟩) (l1.typeIs (s:=⟨h,gs,dr,n,os⟩)) slot_list_getitem.lookup (wpAny_getItem_list_neg (s:=⟨h,gs,dr,n,os⟩) l1 (by (first | decide | lia | omega)) (by simp; (first | decide | lia | omega)) (by (first | decide | lia | omega)) (x:=.int _ t) ?_ (q _ _ _ _ y S ⟨t,rfl⟩)) (dG hs _ _)
  refine aa (show ((-1:Int) + (Vs.toArray.size:Nat)).toNat=(ρ.l p.1).length - 1 by simp; (first | decide | lia | omega)) ?_
  simpa using x1
 ·exact kY hs y S d d' q
theorem jP {a i v:AV} {V U X:Value} {k:St->Tr} {Q:Unit->Shared->Prop} (y:(gK a i v s k).ok ρ post) (S:SR w ρ O G env h s as) (d:Dn ρ as a V) (d':Dn ρ as i U) (d'':Dn ρ as v X)
  (q:∀s' h' n',(k s').ok ρ post->SR w ρ O G env h' s' as->Q () ⟨h',gs,dr,n',os⟩):wpAny (model pr w) A (setItem V U X) Q E ⟨h,gs,dr,n,os⟩:=by
 unfold gK at y
 apply bc;intro ng
 rcases aU y with ⟨p,e,y⟩ | y <;> refine ng ?_ <;> clear ng
 ·obtain ⟨j,e1,e2⟩:=az e
  apply bc;intro ng
  obtain ⟨ps,e3,e4⟩:=az e2
  obtain ⟨o,e5,e6⟩:=az e3
  obtain ⟨c,e7,rfl⟩:=Option.map_eq_some_iff.mp e4
  rw [bM e1] at d; rw [jj e7] at d'
  obtain ⟨x,ex,rfl⟩:=d; obtain ⟨u,rfl⟩:=d'
  rw [sW e6] at e5
  obtain ⟨x',a1,⟨kvs,a2,a3⟩,-⟩:=S.get e5
  rw [ex] at a1; cases a1
  obtain ⟨hl,y⟩:=aj y
  apply ng;clear ng
  have hl:ps.length < 100:=of_decide_eq_true hl
  refine wpAny_setItem_pairs (s:=⟨h,gs,dr,n,os⟩) (k:=c) (intKind_is _ _ _ _) (a3.of w) (fun h' l' hs=>?_) (by have:=a2.len; refine aa sizeLine_eq ?_; (first | lia | omega))
  exact q _ _ _ y (S.obj (o':=.dc (pj ps c v)) e5 rfl ex hs ⟨_,Kv.put a2 d'',eT.mk a3.1 l'⟩)
 ·exact dW y S d d' d'' q
theorem qy {value:Expr} {el eh:Option Expr} {p:Pos} {a:AV} {lo hi:Option IE} {V vl vh:Value} {k:AV->St->Tr} {Q:Value->Shared->Prop} (y:(nD a lo hi s k).ok ρ post) (S:SR w ρ O G env h s as) (d:Dn ρ as a V) (d1:EV ρ lo vl) (d2:EV ρ hi vh)
  (q:∀v V s' h' as' n',(k v s').ok ρ post->SR w ρ O G env h' s' as'->Pre as as'->Dn ρ as' v V->Q V ⟨h',gs,dr,n',os⟩) :
  wpAny (model pr w) A (subscriptTail value (.Slice el eh none p) V (.ref h.objs.size)) Q E ⟨h.push { cls:=.type "slice",data:=.fields #[vl,vh,.none] },gs,dr,n,os⟩:=by
 have S1:SR w ρ O G env (h.push { cls:=.type "slice",data:=.fields #[vl,vh,.none] }) s as:=S.stay fun zw zw e=>Heap.get?_push_of_some _ e
 have key:∀{x:Addr} {Vs:List Value} {b c:Nat},h.IsList x Vs.toArray->Vs.length<=1000->(CE.isl c b lo hi).den ρ->
   (Q (.ref (h.push { cls:=.type "slice",data:=.fields #[vl,vh,.none] }).objs.size) ⟨(h.push { cls:=.type "slice",data:=.fields #[vl,vh,.none] }).push { cls:=.type "list",data:=.seq (slV Vs (lo.map (IE.den ρ)) (hi.map (IE.den ρ))).toArray },gs,dr,n,os⟩)->
   wpAny (model pr w) A (subscriptTail value (.Slice el eh none p) (.ref x) (.ref h.objs.size)) Q E ⟨h.push { cls:=.type "slice",data:=.fields #[vl,vh,.none] },gs,dr,n,os⟩:=by
  intro x Vs b c l hz hc hq
  have hp:(h.push { cls:=.type "slice",data:=.fields #[vl,vh,.none] }).IsList x Vs.toArray:=l.push _
  refine tail_any (ops:=[.ref h.objs.size,.ref x]) (T:="list") (s:=⟨h.push _,gs,dr,n,os⟩) (Heap.IsList.typeIs (s:=⟨h.push _,gs,dr,n,os⟩) hp) list_getitem_lookup ?_ rfl
  refine wpAny_getItem_list_slice (s:=⟨h.push _,gs,dr,n,os⟩) hp (Heap.IsSliceOf.new ..) d1.part d2.part .none (by simp) ?_ (by refine aa List.size_toArray (aa sizeLine_eq ?_); (first | decide | lia | omega))
  refine aa (mf hc.1 hc.2.1) ?_
  exact hq
 unfold nD at y
 apply bc;intro ng
 rcases aU y with ⟨b,e,y⟩ | y <;> refine ng ?_ <;> clear ng
 ·obtain ⟨x,Vs,rfl,i1,l1⟩:=eO S.hat e d
  apply bc;intro ng
  obtain ⟨c,y⟩:=y
  apply ng;clear ng
  refine key l1 (by refine aa i1.length ?_; exact c.2.2.2) c ?_
  exact q _ _ _ _ _ _ y (S1.newI (by refine aa c.2.2.1 ?_; exact IntsAre.slV i1 _ _)) ⟨_,rfl⟩ S1.lastD
 apply bc;intro ng
 rcases aU y with ⟨b,e,y⟩ | y <;> refine ng ?_ <;> clear ng
 ·obtain ⟨x,rfl,l1⟩:=dI S.hat e d
  apply bc;intro ng
  obtain ⟨c,y⟩:=y
  apply ng;clear ng
  refine key l1 (by rw [List.length_map]; exact c.2.2.2) c ?_
  exact q _ _ _ _ _ _ y (S1.newR (by refine aa c.2.2.1 ?_; exact xK _ _)) ⟨_,rfl⟩ S1.lastD
 apply bc;intro ng
 rcases aU y with ⟨b,e,y⟩ | y <;> refine ng ?_ <;> clear ng
 ·obtain ⟨_,_,y⟩:=af y
  exact y.elim
 ·obtain ⟨vs,e,y⟩:=af y
  apply bc;intro ng
  obtain ⟨r,er,y⟩:=af y
  obtain ⟨r1,r2⟩:=ah er
  obtain ⟨he,e2,e3⟩:=az r2
  obtain ⟨x,Vs,rfl,i1,l1⟩:=bB S.hat e d
  obtain ⟨c,y⟩:=aj y
  simp only [Bool.and_eq_true,decide_eq_true_eq] at c
  obtain ⟨⟨⟨⟨c1,c2⟩,c3⟩,c4⟩,c5⟩:=c
  have ll:=i1.len
  rw [e2,bO e3] at d2
  obtain ⟨u,rfl⟩:=d2
  apply ng;clear ng
  have hp:IsTup (h.push { cls:=.type "slice",data:=.fields #[vl,.int r.2 u,.none] }) x Vs.toArray:=let ⟨o,z1,z2⟩:=l1; ⟨o,Heap.get?_push_of_some _ z1,z2⟩
  refine tail_any (ops:=[.ref h.objs.size,.ref x]) (T:="tuple") (s:=⟨h.push _,gs,dr,n,os⟩) (hp.typeIs (s:=⟨h.push _,gs,dr,n,os⟩)) slot_tuple_getitem.lookup ?_ rfl
  have hb:r.2=((r.2.toNat:Nat):Int):=by (first | decide | lia | omega)
  have hs:=Heap.IsSliceOf.new h vl (.int r.2 u) .none
  rw [hb] at hs
  refine qi (s:=⟨h.push _,gs,dr,n,os⟩) (a:=r.1.toNat) (b:=r.2.toNat) hp (by rw [<- hb] at hs ⊢; exact hs) d1.part ?_ (by (first | decide | lia | omega)) (by simp; (first | decide | lia | omega)) (by simp; (first | decide | lia | omega)) ?_ (by refine aa List.size_toArray (aa sizeLine_eq ?_); (first | decide | lia | omega))
  ·induction lo with
   | none=>have r1:some (0:Int)=some r.1:=r1; have:=Option.some.inj r1; show (0:Int)=_; (first | decide | lia | omega)
   | some le=>have r1:le.c? = some r.1:=r1; refine aa (bO r1) ?_; show r.1=_; (first | decide | lia | omega)
  ·exact q _ _ _ _ _ _ y (S1.newT (((i1.drop _)).take _)) ⟨_,rfl⟩ S1.lastD
end
end
section
open PySem PySem.W PyProof.Rows PySem.Calls Builtin Builtin.ObjectAttr PySem.SeqAt
theorem gJ {ρ:Rho} {post:Fl->St->Prop} {c:Bool} {t e:Tr} (y:(fP c t e).ok ρ post):(c=true/\t.ok ρ post)\/e.ok ρ post:=by
 induction c with | true=>exact .inl ⟨rfl,y⟩ | false=>exact .inr y
theorem gm {f:AV} {v:Value} (e:f9 f v=true):f = .glb v:=by
 induction f using AV.casesOn <;> first | (exact aa (eq_of_beq (a:=_) (b:=v) e) rfl) | exact bG e
def HB (w:World) (O:Opq):Prop:=∃hb,Wd w hb/\∀a o,hb.get? a=some o->O.g a=some o
theorem HB.k {w:World} {O:Opq} (H:HB w O) {a:Addr} {o:Obj} (e:(K w.params).lookup a=some o):O.g a=some o:=let ⟨_,W,k⟩:=H; k a o (W.k a o e)
set_option tactic.hygienic true
theorem jQ {P:Params} {v:AV} {vs:List AV} (e:xJ P v=some vs):∃x o,∃Vs:List Value,v = .glb (.ref x)/\(K P).lookup x=some o/\o.cls = .type "tuple"/\(∃n,o.data = .seq Vs.toArray n)/\vs=Vs.map jD:=by
 apply bc;intro ng
 obtain ⟨o,e1,e2⟩:=az e
 obtain ⟨x,e3,e4⟩:=az e1
 obtain ⟨u,e5,e6⟩:=az e3
 obtain ⟨Vs,e7,rfl⟩:=Option.map_eq_some_iff.mp e2
 apply ng;clear ng
 refine aa (m5 e5) (aa (rT e6) ?_)
 induction hc:o.cls == .type "tuple" with
 | false=>unfold nv at e7; rw [hc] at e7; exact ap e7
 | true =>
  unfold nv at e7; rw [hc] at e7
  cases hd:o.data with
  | seq us n=>rw [hd] at e7; have e7:=aG e7; exact ⟨x,o,_,rfl,e4,eq_of_beq hc,⟨n,by exact aa hd (aa (Eq.symm e7) rfl)⟩,rfl⟩
  | _=>rw [hd] at e7; exact ap e7
set_option tactic.hygienic false
theorem bR {ob:List AO} {as:List Addr} (sz:as.length=ob.length) {ao:AO} {a0:Addr} (i:Nat) (x:AO) (a:Addr) (e:(ob++[ao])[i]? = some x) (e':(as++[a0])[i]? = some a):(ob[i]? = some x/\as[i]? = some a)\/(i=ob.length/\x=ao/\a=a0):=by
 by_cases hi:i < ob.length
 ·rw [List.getElem?_append_left hi] at e
  rw [List.getElem?_append_left (by refine aa sz ?_; exact hi)] at e'
  exact .inl ⟨e,e'⟩
 ·rw [List.getElem?_append_right (by (first | lia | omega))] at e
  rw [List.getElem?_append_right (by refine aa sz ?_; (first | lia | omega))] at e'
  have h0:i - ob.length=0:=by
   have:=(List.getElem?_eq_some_iff.mp e).1; simp at this; (first | lia | omega)
  rw [h0] at e; rw [sz,h0] at e'
  simp at e e'
  exact .inr ⟨by (first | lia | omega),e.symm,e'.symm⟩
section
variable {w:World} {ρ:Rho} {O:Opq} {d:Nat} {r:Rc} {post:Fl->St->Prop} {A:Around} {gs:Array GenState} {dr:Drawn} {os:OsState} {G:Gr} {Er:Value->Shared->Prop} {env:Env} {h h':Heap} {ob:List AO} {pc:List (CE×Bool)} {as:List Addr} {s:St}
theorem Co.tie (S:Co w ρ O G h ob pc as) {ao:AO} (a0:Addr) (ow:ao.own=false) (y:aC ρ O (as++[a0]) h a0 ao):Co w ρ O G h (ob++[ao]) pc (as++[a0]):=by
 refine ⟨S.bs,S.kp,S.og,by simp [S.sz],fun i x a e e'=>?_,fun i j x x' a e1 e2 w1 w2 e3 e4=>?_,S.pc⟩
 ·rcases bR S.sz i x a e e' with ⟨f1,f2⟩ | ⟨f1,rfl,rfl⟩
  ·obtain ⟨z1,z2⟩:=S.ob i x a f1 f2
   exact ⟨z1.keep ⟨_,rfl⟩ (fun zw x e=>e),z2⟩
  ·exact ⟨y,fun z=>by rw [ow] at z; exact bG z⟩
 ·rcases bR S.sz i x a e1 e3 with ⟨f1,f2⟩ | ⟨f1,rfl,rfl⟩
  ·rcases bR S.sz j x' a e2 e4 with ⟨g1,g2⟩ | ⟨g1,rfl,rfl⟩
   ·exact S.nd i j x x' a f1 g1 w1 w2 f2 g2
   ·rw [ow] at w2; exact bG w2
  ·rw [ow] at w1; exact bG w1
theorem SR.tie (S:SR w ρ O G env h s as) {ao:AO} (a0:Addr) (ow:ao.own=false) (y:aC ρ O (as++[a0]) h a0 ao):SR w ρ O G env h { s with ob:=s.ob++[ao] } (as++[a0]) :=
 S.back (s':={ s with ob:=s.ob++[ao] }) (S.co.tie a0 ow y) ⟨_,rfl⟩ rfl rfl
theorem Co.new (S:Co w ρ O G h ob pc as) (k:h.StaysIn h') {ao:AO} (y:aC ρ O (as++[h.objs.size]) h' h.objs.size ao):Co w ρ O G h' (ob++[ao]) pc (as++[h.objs.size]):=by
 have gn:G h.objs.size=none:=by
  induction q:G h.objs.size with
  | none=>rfl
  | some x=>exact absurd (Heap.lt_size (S.kp _ _ q)) (Nat.lt_irrefl _)
 refine ⟨S.bs,fun a x e=>k _ _ (S.kp a x e),S.og,by simp [S.sz],fun i x a e e'=>?_,fun i j x x' a e1 e2 w1 w2 e3 e4=>?_,S.pc⟩
 ·rcases bR S.sz i x a e e' with ⟨f1,f2⟩ | ⟨f1,rfl,rfl⟩
  ·obtain ⟨z1,z2⟩:=S.ob i x a f1 f2
   exact ⟨z1.keep ⟨_,rfl⟩ (fun zw x e=>k _ _ e),z2⟩
  ·exact ⟨y,fun zw=>gn⟩
 ·rcases bR S.sz i x a e1 e3 with ⟨f1,f2⟩ | ⟨f1,rfl,rfl⟩
  ·rcases bR S.sz j x' a e2 e4 with ⟨g1,g2⟩ | ⟨g1,rfl,rfl⟩
   ·exact S.nd i j x x' a f1 g1 w1 w2 f2 g2
   ·exact absurd ((S.ob i x _ f1 f2).1.lt w1) (Nat.lt_irrefl _)
  ·rcases bR S.sz j x' _ e2 e4 with ⟨g1,g2⟩ | ⟨g1,rfl,-⟩
   ·exact absurd ((S.ob j x' _ g1 g2).1.lt w2) (Nat.lt_irrefl _)
   ·(first | lia | omega)
theorem Co.lastD {pc:List (CE×Bool)} (S:Co w ρ O G h s.ob pc as) {x:Addr}:Dn ρ (as++[x]) (.loc s.ob.length) (.ref x):=⟨x,by refine aa (Eq.symm S.sz) ?_; exact aX,rfl⟩
theorem mG {v:AV} {k:Nat->St->Tr} {V:Value} {as:List Addr} (H:HB w O) (y:(FW w.params v s k).ok ρ post) (sz:as.length=s.ob.length) (d:Dn ρ as v V) :
  (∃i,v = .loc i/\(k i s).ok ρ post)\/∃x vs,V = .ref x/\(k s.ob.length { s with ob:=s.ob++[.fz (.tup vs)] }).ok ρ post/\∀as',aN ρ as' O.g x (.tup vs):=by
 unfold FW at y
 induction e:v.l? with
 | some i=>rw [e] at y; exact .inl ⟨i,bM e,y⟩
 | none =>
  rw [e] at y
  apply bc;intro ng
  obtain ⟨vs,e1,y⟩:=af y
  obtain ⟨x,o,Vs,rfl,e2,e3,⟨m,e4⟩,rfl⟩:=jQ e1
  apply ng;clear ng
  exact .inr ⟨x,_,d,y,fun as'=>⟨Vs,nC Vs,o,H.k e2,e3,m,e4⟩⟩
theorem tM {a:AV} {k:AV->St->Tr} {n:Nat} {V:Value} {Q:Value->Shared->Prop} (H:HB w O)
  (y:(ze w.params a s k).ok ρ post) (S:Co w ρ O G h s.ob s.pc as) (da:Dn ρ as a V)
  (q:∀v V s' h' as' n',s'.ls=s.ls->s'.cl=s.cl->(k v s').ok ρ post->Co w ρ O G h' s'.ob s'.pc as'->Pre as as'->Dn ρ as' v V->Q V ⟨h',gs,dr,n',os⟩):wpAny (model pr w) A (call (.type "list") [V]) Q Er ⟨h,gs,dr,n,os⟩:=by
 have key:∀{s':St} {as':List Addr} {i:Nat},s'.ls=s.ls->s'.cl=s.cl->Co w ρ O G h s'.ob s'.pc as'->Pre as as'->Dn ρ as' (.loc i) V->(dg (j3 s' (.loc i)) (fun b=>.req (.ilen b 0) (mk (.rf b) s' k)) <|
   dg (lstAt s' (.loc i)) (fun vs=>bN (decide (vs.length < 100)) (mk (.lst vs) s' k)) <| aS (tupAt s' (.loc i)) fun vs=>bN (decide (vs.length < 100)) (mk (.lst vs) s' k)).ok ρ post->wpAny (model pr w) A (call (.type "list") [V]) Q Er ⟨h,gs,dr,n,os⟩:=by
  intro s' as' i e1 e2 S p d y
  rcases aU y with ⟨b,e,y⟩ | y
  ·obtain ⟨x,rfl,o,l1,l2,m,l3⟩:=dI S.hat e d
   obtain ⟨c,y⟩:=y
   have c:(ρ.l b).length + 0<=1000:=c
   refine call_list_seq (s:=⟨h,gs,dr,n,os⟩) x (.inl rfl) l1 l2 l3 (fun h' c' kk ho=>?_) (by simp; rw [sizeLine_eq]; (first | decide | lia | omega))
   exact q _ _ { s' with ob:=s'.ob++[.rf b] } _ _ _ e1 e2 y (S.new kk (ao:=.rf b) ⟨_,ho,_,rfl⟩) (p.trans ⟨_,rfl⟩) S.lastD
  have aq:∀{x:Addr} {vs:List AV} {Vs:List Value} {T:String} (o:Obj),(T = "list"\/T = "tuple")->h.get? x=some o->o.cls = .type T->(∃m,o.data = .seq Vs.toArray m)->V = .ref x->All2 (Dn ρ as') vs Vs->(bN (decide (vs.length < 100)) (mk (.lst vs) s' k)).ok ρ post->wpAny (model pr w) A (call (.type "list") [V]) Q Er ⟨h,gs,dr,n,os⟩:=by
   intro x vs Vs T o hT l1 l2 ⟨m,l3⟩ hV dv y
   subst hV
   obtain ⟨c,y⟩:=aj y
   have c:=of_decide_eq_true c
   have ll:=dv.len
   refine call_list_seq (s:=⟨h,gs,dr,n,os⟩) x hT l1 l2 l3 (fun h' c' kk ho=>?_) (by simp; rw [sizeLine_eq]; (first | decide | lia | omega))
   exact q _ _ { s' with ob:=s'.ob++[.lst vs] } _ _ _ e1 e2 y (S.new kk (ao:=.lst vs) ⟨Vs,dv.mono fun zw zw z=>z.pre ⟨_,rfl⟩,_,ho,rfl,_,rfl⟩) (p.trans ⟨_,rfl⟩) S.lastD
  rcases aU y with ⟨b,e,y⟩ | y
  ·obtain ⟨x,Vs,hV,dv,o,l1,l2,m,l3⟩:=eB S.hat e d
   exact aq o (.inl rfl) l1 l2 ⟨m,l3⟩ hV dv y
  ·obtain ⟨b,e,y⟩:=af y
   obtain ⟨x,Vs,hV,dv,o,l1,l2,m,l3⟩:=bB S.hat e d
   exact aq o (.inr rfl) l1 l2 ⟨m,l3⟩ hV dv y
 rcases mG H y S.sz da with ⟨i,rfl,y⟩ | ⟨x,vs,rfl,y,F⟩
 ·exact key rfl rfl S .refl da y
 ·exact key (s':={ s with ob:=s.ob++[.fz (.tup vs)] }) rfl rfl (S.tie x rfl (F _)) ⟨_,rfl⟩ S.lastD y
set_option tactic.hygienic true
theorem qR {hk:Hk} (HH:HB w O) (H:ay w ρ O hk (d + 1)) (R:Snd w ρ O d r) {fv:AV} {args:List AV} {s:St} {k:AV->St->Tr} {h:Heap} {n:Nat} {as:List Addr} {V:Value} {Us:List Value} {Q:Value->Shared->Prop} (hR:Room A (d + 1))
  (y:(nE w.params hk r fv args s k).ok ρ post) (S:Co w ρ O G h s.ob s.pc as) (df:Dn ρ as fv V) (da:All2 (Dn ρ as) args Us)
  (q:∀v V s' h' as' n',s'.ls=s.ls->s'.cl=s.cl->(k v s').ok ρ post->Co w ρ O G h' s'.ob s'.pc as'->Pre as as'->Dn ρ as' v V->Q V ⟨h',gs,dr,n',os⟩):wpAny (model pr w) A (call V Us) Q Er ⟨h,gs,dr,n,os⟩:=by
 have one:∀{v:Value} {a:AV},f9 fv v=true->aZ args=some a->V=v/\∃U,Us = [U]/\Dn ρ as a U:=fun e1 e2=>by
  rw [gm e1] at df
  rw [ba e2] at da
  cases da; rename_i d1 da; cases da
  exact ⟨df,_,rfl,d1⟩
 unfold nE at y
 rcases gJ y with ⟨f,y⟩ | y
 ·obtain ⟨a,e,y⟩:=af y
  obtain ⟨rfl,U,rfl,d1⟩:=one f e
  exact tM HH y S d1 q
 rcases gJ y with ⟨f,y⟩ | y
 ·obtain ⟨a,e,y⟩:=af y
  obtain ⟨rfl,U,rfl,d1⟩:=one f e
  rcases aU y with ⟨vs,e,y⟩ | y
  ·obtain ⟨x,Vs,rfl,dv,l⟩:=bB S.hat e d1
   exact call_tuple_tup (s:=⟨h,gs,dr,n,os⟩) l (q _ _ _ _ _ _ rfl rfl y S .refl d1)
  rcases aU y with ⟨vs,e,y⟩ | y
  ·obtain ⟨x,o,Vs,rfl,e2,e3,⟨m,e4⟩,rfl⟩:=jQ e
   have d1:U = .ref x:=d1
   subst d1
   exact call_tuple_tup (s:=⟨h,gs,dr,n,os⟩) (items:=Vs.toArray) ⟨o,S.kp _ _ (S.og _ _ (HH.k e2)),e3,m,e4⟩ (q (.glb (.ref x)) _ _ _ _ _ rfl rfl y S .refl rfl)
  ·exact dm H R hR y S df da q
 rcases gJ y with ⟨f,y⟩ | y
 ·obtain ⟨a,e,y⟩:=af y
  have f2:=f
  obtain ⟨rfl,U,rfl,d1⟩:=one f e
  have df':∀as',Dn ρ as' fv (.builtin "len"):=fun as'=>by refine aa (gm f2) ?_; rfl
  rcases aU y with ⟨b,eb,y⟩ | y
  ·obtain ⟨x,rfl,l⟩:=dI S.hat eb d1
   obtain ⟨⟨c1,c2⟩,y⟩:=y
   have e:((((ρ.l b).map ak).toArray.size:Nat):Int)=(Cu b).den ρ:=by refine aa (Eq.symm c1) ?_; simp
   exact call_len_list (s:=⟨h,gs,dr,n,os⟩) l (by simp; (first | lia | omega)) (q (.int (Cu b)) _ _ _ _ _ rfl rfl y S .refl ⟨_,by exact aa e rfl⟩)
  rcases mG HH y S.sz d1 with ⟨i,rfl,y⟩ | ⟨x,vs,rfl,y,F⟩
  ·exact dm H R hR y S df (.cons d1 .nil) q
  ·have S':Co w ρ O G h (s.ob++[.fz (.tup vs)]) s.pc (as++[x]):=S.tie x rfl (F _)
   exact dm (s:={ s with ob:=s.ob++[.fz (.tup vs)] }) H R hR y S' (df' _) (.cons S.lastD .nil) fun v V s' h' as' n' e1 e2 y S p dv=>q _ _ _ _ _ _ e1 e2 y S (Pre.trans ⟨_,rfl⟩ p) dv
 rcases gJ y with ⟨f,y⟩ | y
 ·obtain ⟨b,e,y⟩:=af y
  obtain ⟨a,e1,e2⟩:=az e
  obtain ⟨rfl,U,rfl,d1⟩:=one f e1
  rw [v9 e2] at d1
  have d1:U=_:=d1
  subst d1
  exact call_int_bool (s:=⟨h,gs,dr,n,os⟩) (q (.int (.c (if b then 1 else 0))) _ _ _ _ _ rfl rfl y S .refl ⟨_,rfl⟩)
 rcases gJ y with ⟨f,y⟩ | y
 ·obtain ⟨ps,e,y⟩:=af y
  obtain ⟨a,e1,e2⟩:=az e
  obtain ⟨rfl,U,rfl,d1⟩:=one f e1
  obtain ⟨x,kvs,rfl,dv,l⟩:=jV S.hat e2 d1
  obtain ⟨c,y⟩:=aj y
  have c:=of_decide_eq_true c
  have ll:=dv.len
  refine kt_call_dict (s:=⟨h,gs,dr,n,os⟩) l.1 (l.of w) (by refine aa sizeLine_eq ?_; (first | lia | omega)) fun h' l' hs=>?_
  have kk:h.StaysIn h':=fun b o e=>(hs.2 b (Nat.ne_of_lt (Heap.lt_size e))).trans (Heap.get?_push_of_some _ e)
  have big:(h.objs.size == sysModules)=false:=by
   have:=Heap.lt_size (S.kp _ _ (S.og _ _ (HH.k (a:=3) rfl)))
   rw [beq_eq_false_iff_ne]; intro z; rw [z] at this; exact absurd this (by decide)
  exact q _ _ { s with ob:=s.ob++[.dc ps] } _ _ _ rfl rfl y (S.new kk (ao:=.dc ps) ⟨kvs,dv.mono fun zw zw z=>z.pre ⟨_,rfl⟩,eT.mk big l'⟩) ⟨_,rfl⟩ S.lastD
 rcases gJ y with ⟨f,y⟩ | y
 ·rcases aU y with ⟨u,e,y⟩ | y
  ·obtain ⟨p,e1,e2⟩:=az e
   obtain ⟨tt,e3,e4⟩:=az e2
   rw [ch e1] at da
   rw [gm f] at df
   cases da; rename_i d1 da; cases da; rename_i d2 da; cases da
   have df:V=_:=df
   subst df
   rw [m5 e3] at d2
   cases d2
   by_cases hx:BK p.1 tt s=true
   ·unfold BK at hx
    simp only [Bool.or_eq_true,Bool.and_eq_true] at hx
    rcases hx with ⟨h1,h2⟩ | ⟨h1,h2⟩
    ·obtain ⟨z,hz⟩:=Option.isSome_iff_exists.mp h1
     rw [nu hz] at d1
     obtain ⟨tk,rfl⟩:=d1
     refine aa (eq_of_beq h2) ?_
     exact call_isinstance_yes (typeIs_str _ _ _) PyProof.Rows.meta_str isSubtype_str_str (q (.bool true) _ _ _ _ _ rfl rfl y S .refl rfl)
    ·obtain ⟨z,hz⟩:=Option.isSome_iff_exists.mp h1
     obtain ⟨x,Vs,rfl,dv,l⟩:=bB S.hat hz d1
     refine aa (eq_of_beq h2) ?_
     exact call_isinstance_yes (s:=⟨h,gs,dr,n,os⟩) (IsTup.typeIs (s:=⟨h,gs,dr,n,os⟩) l) PyProof.Rows.meta_tuple isSubtype_tuple_tuple (q (.bool true) _ _ _ _ _ rfl rfl y S .refl rfl)
   ·rw [if_neg hx] at e4; exact ap e4
  ·exact dm H R hR y S df da q
 ·exact dm H R hR y S df da q
set_option tactic.hygienic false
end
end
section
open PySem PySem.W PyProof.Rows PySem.Calls Builtin Builtin.ObjectAttr PySem.SeqAt
section
variable {w:World} {ρ:Rho} {O:Opq} {d:Nat} {r:Rc} {post:Fl->St->Prop} {env:Env} {A:Around} {gs:Array GenState} {dr:Drawn} {os:OsState} {G:Gr} {Er:Value->Shared->Prop}
theorem pM {elts es:List Expr} {k0 k1:Nat} {p0 p1:Pos} (ek:env.scope.kind = .function) (h1:(elts.length == 2 || elts.length == 3)=true) (h2:(es.length == elts.length)=true) (h3:es.any aK=false)
  (hn:(bp env.scope elts).length=elts.length) (hd:((bp env.scope elts).eraseDups.length == (bp env.scope elts).length)=true) (hf:es.all (foldedForSure 8)=false) (hc:es.all (constantsAlone 8)=false) :
  swappedStores [.Tuple elts k0 p0] (.Tuple es k1 p1) env=pure (some (bp env.scope elts)):=by
 have e1:(!(elts.length == 2 || elts.length == 3) || es.length != elts.length || env.blockKind != .function)=false:=by
  have:env.blockKind = .function:=by unfold Env.blockKind; refine aa ek ?_; rfl
  rw [h1,this,bne,h2]; rfl
 have e2:((bp env.scope elts).length != elts.length || (bp env.scope elts).eraseDups.length != (bp env.scope elts).length)=false:=by
  rw [bne,bne,hd,hn,beq_self_eq_true]; rfl
 have e0:swappedStores [.Tuple elts k0 p0] (.Tuple es k1 p1) env=(do
  if (!(elts.length == 2 || elts.length == 3) || es.length != elts.length || env.blockKind != .function)=true then return none
  if es.any aK=true then return none
  if ((bp env.scope elts).length != elts.length || (bp env.scope elts).eraseDups.length != (bp env.scope elts).length)=true then return none
  if es.all (foldedForSure 8)=true then return none
  if es.all (constantsAlone 8)=true then unsupported "assign.tuple-of-constant-expressions:order-of-the-stores"
  return some (bp env.scope elts)):=rfl
 refine aa e0 (aa e1 (aa h3 (aa e2 (aa hf (aa hc ?_)))))
 rfl
theorem qH {elts es:List Expr} {k0 k1:Nat} {p0 p1:Pos} (hn:(bp env.scope elts).length≠elts.length):swappedStores [.Tuple elts k0 p0] (.Tuple es k1 p1) env=pure none:=by
 have e2:((bp env.scope elts).length != elts.length || (bp env.scope elts).eraseDups.length != (bp env.scope elts).length)=true:=by
  rw [bne,beq_eq_false_iff_ne.mpr hn]; rfl
 have e0:swappedStores [.Tuple elts k0 p0] (.Tuple es k1 p1) env=(do
  if (!(elts.length == 2 || elts.length == 3) || es.length != elts.length || env.blockKind != .function)=true then return none
  if es.any aK=true then return none
  if ((bp env.scope elts).length != elts.length || (bp env.scope elts).eraseDups.length != (bp env.scope elts).length)=true then return none
  if es.all (foldedForSure 8)=true then return none
  if es.all (constantsAlone 8)=true then unsupported "assign.tuple-of-constant-expressions:order-of-the-stores"
  return some (bp env.scope elts)):=rfl
 refine aa e0 (aa e2 ?_)
 cases (!(elts.length == 2 || elts.length == 3) || es.length != elts.length || env.blockKind != .function) with
 | true=>rfl
 | false=>cases es.any aK <;> rfl
theorem i9 {k:St->Tr}:∀{xs:List Str} {vs:List AV} {Vs:List Value} {s:St} {h:Heap} {n:Nat} {as:List Addr} {Q:Unit->Shared->Prop},(lJ.xStoreN env.scope xs vs s k).ok ρ post->
  SR w ρ O G env h s as->All2 (Dn ρ as) vs Vs->(∀s' h' n',(k s').ok ρ post->SR w ρ O G env h' s' as->Q () ⟨h',gs,dr,n',os⟩)->
  wpAny (model pr w) A (assignInOrder (xs.map fun n=>bindName env n) Vs) Q Er ⟨h,gs,dr,n,os⟩
 | [],[],_,s,h,n,as,Q,y,S,.nil,q=>assignInOrder_nil (q _ _ _ y S)
 | [],_::_,_,s,h,n,as,Q,y,S,_,q=>y.elim
 | _::_,[],_,s,h,n,as,Q,y,S,_,q=>y.elim
 | x::xs,v::vs,_,s,h,n,as,Q,y,S,.cons dv dvs,q =>
  assignInOrder_cons (bindName_ (aW y S dv fun s' h' n' y S'=>i9 y S' dvs q))
theorem pU (R:Snd w ρ O d r) {t:Expr} {body:List Stmt} {k:Fl->St->Tr} {Q:Flow->Shared->Prop} (hR:Room A d) {as₀:List Addr}
  (q:∀fl F s' h' as' n',(k fl s').ok ρ post->SR w ρ O G env h' s' as'->Pre as₀ as'->lW ρ as' fl F->Q F ⟨h',gs,dr,n',os⟩) {nn:Nat} {s:St} {h:Heap} {n:Nat} {as:List Addr} (y:(i6 r env.scope t body k nn s).ok ρ post) (S:SR w ρ O G env h s as) (p₀:Pre as₀ as) :
  codeAny (model pr w) A (.whileLoop t body [] env) (fun r s'=>match r with | .ok f=>Q f s' | .error e=>cameBackBy (model pr w) A env Er e s') ⟨h,gs,dr,n,os⟩:=by
 refine codeAny_whileLoop (fun nn st=>∃s h n as,st=⟨h,gs,dr,n,os⟩/\(i6 r env.scope t body k nn s).ok ρ post/\SR w ρ O G env h s as/\Pre as₀ as) (fun nn st I=>?_) nn ⟨s,h,n,as,rfl,y,S,p₀⟩
 apply bc;intro ng
 obtain ⟨s,h,n,as,rfl,y,S,p₀⟩:=I
 apply ng;clear ng
 induction nn using Nat.casesOn with
 | zero=>exact y.elim
 | succ nn =>
  simp only [i6] at y
  refine R.T hR y S (fun zw=>rfl) fun c s' h' as' n' y S' p=>?_
  induction c with
  | false=>exact wpAny_execs_nil (q _ _ _ _ _ _ y S' (p₀.trans p) rfl)
  | true =>
   refine cq R hR y S' fun fl F s3 h3 as3 n3 y S3 p3 df=>?_
   have p4:=(p₀.trans p).trans p3
   induction fl with
   | nx=>have df:F = .next:=df; subst df; exact ⟨nn,Nat.lt_succ_self _,_,_,_,_,rfl,y,S3,p4⟩
   | ct=>have df:F = .cont:=df; subst df; exact ⟨nn,Nat.lt_succ_self _,_,_,_,_,rfl,y,S3,p4⟩
   | bk=>have df:F = .brk:=df; subst df; exact q _ _ _ _ _ _ y S3 p4 rfl
   | rt v=>obtain ⟨V,rfl,dv⟩:=df; exact q _ _ _ _ _ _ y S3 p4 ⟨V,rfl,dv⟩
theorem kO (R:Snd w ρ O d r) (hR:Room A d) {e:Option Expr} {s:St} {k:Option IE->St->Tr} {h:Heap} {n:Nat} {as:List Addr} {Q:Value->Shared->Prop} (y:(uA r env.scope e s k).ok ρ post) (S:SR w ρ O G env h s as)
  (q:∀v V s' h' as' n',(k v s').ok ρ post->SR w ρ O G env h' s' as'->Pre as as'->EV ρ v V->Q V ⟨h',gs,dr,n',os⟩):wpAny (model pr w) A (evalPart e env) Q Er ⟨h,gs,dr,n,os⟩:=by
 induction e with
 | none=>rw [evalPart_none]; exact wpAny_pure (q _ _ _ _ _ _ y S .refl rfl)
 | some e =>
  rw [evalPart_some]
  refine R.E hR y S fun v V s' h' as' n' y S' p dv=>?_
  obtain ⟨i,ei,y⟩:=af y
  rw [cO ei] at dv
  exact q _ _ _ _ _ _ y S' p dv
set_option tactic.hygienic true
theorem pQ (R:Snd w ρ O d r) {e:Expr} {s:St} {k:AV->St->Tr} {h:Heap} {n:Nat} {as:List Addr} {Q:Value->Shared->Prop} (hb:HB w O) (h2:2<=d) (hR:Room A (d + 1)) (y:(tn w.params r env.scope e s k).ok ρ post) (S:SR w ρ O G env h s as)
  (q:∀v V s' h' as' n',(k v s').ok ρ post->SR w ρ O G env h' s' as'->Pre as as'->Dn ρ as' v V->Q V ⟨h',gs,dr,n',os⟩):wpAny (model pr w) A (eval e env) Q Er ⟨h,gs,dr,n,os⟩:=by
 have hR0:Room A d:=hR.le (Nat.le_succ _)
 have hu:A.units + 70 < cLine:=by have:=hR.un; (first | lia | omega)
 induction e using Expr.casesOn <;> try exact iZ R hR0 y S q
 ·rename_i a op b pos
  refine wpAny_BinOp (R.E hR0 y S fun v V s' h' as' n' y S' p dv=>?_)
  refine R.E hR0 y S' fun u U s'' h'' as'' n'' y S'' p' du=>?_
  exact ma y S'' (dv.pre p') du fun v V s3 h3 as3 n3 y S3 p3 dv=>q _ _ _ _ _ _ y S3 ((p.trans p').trans p3) dv
 ·rename_i ks vs pos
  obtain ⟨c,y⟩:=aj y
  simp only [Bool.and_eq_true,List.isEmpty_iff] at c
  obtain ⟨rfl,rfl⟩:=c
  refine wpAny_Dict_empty (s:=⟨h,gs,dr,n,os⟩) ?_
  have big:(h.objs.size == sysModules)=false:=by
   have:=Heap.lt_size (S.kp _ _ (S.og _ _ (hb.k (a:=3) rfl)))
   rw [beq_eq_false_iff_ne]; intro z; rw [z] at this; exact absurd this (by decide)
  exact q _ _ _ _ _ _ y (S.push _ (ao:=.dc []) ⟨[],.nil,eT.mk (w:=w) big (Heap.DictOf.new h)⟩) ⟨_,rfl⟩ S.lastD
 ·rename_i a ops cs pos
  revert y
  show (Tr.ok ρ post (match aq (aZ ops) (aZ cs) with | some q=>_ | none=>_))->_
  induction e:aq (aZ ops) (aZ cs) with
  | none=>exact fun y=>iZ R hR0 y S q
  | some z =>
   obtain ⟨z1,z2⟩:=ah e
   refine aa (ba z1) (aa (ba z2) ?_)
   intro y
   dsimp only at y
   by_cases hm:behindInMarks z.1 z.2=true
   ·rw [if_pos hm] at y; exact y.elim
   ·rw [if_neg hm] at y
    rw [Bool.not_eq_true] at hm
    refine wpAny_Compare1 (R.E hR0 y S fun v V s' h' as' n' y S' p dv=>?_) hm
    refine R.E hR0 y S' fun u U s'' h'' as'' n'' y S'' p' du=>?_
    exact kP hu y S'' (dv.pre p') du fun c s3 n3 y S3=>q _ _ _ _ _ _ y S3 (p.trans p') rfl
 ·rename_i o i pos
  revert y
  show (Tr.ok ρ post (match j7 i with | some q=>_ | none=>_))->_
  induction e:j7 i with
  | some z =>
   obtain ⟨pp,rfl⟩:=Ec e
   intro y
   dsimp only at y
   refine Subscript_ (R.E hR0 y S fun v V s' h' as' n' y S' p dv=>?_)
   refine wpAny_Slice (kO R hR0 y S' fun lo vl s2 h2 as2 n2 y S2 p2 d2=>kO R hR0 y S2 fun hi vh s3 h3 as3 n3 y S3 p3 d3=>?_)
   rw [evalPart_none]
   refine wpAny_pure (qy y S3 ((dv.pre p2).pre p3) d2 d3 fun v V s4 h4 as4 n4 y S4 p4 d4=>q _ _ _ _ _ _ y S4 (((p.trans p2).trans p3).trans p4) d4)
  | none =>
   intro y
   dsimp only at y
   by_cases hs:cu i=true
   ·rw [if_pos hs] at y; exact y.elim
   ·rw [if_neg hs] at y
    rw [Bool.not_eq_true] at hs
    refine Subscript_ (R.E hR0 y S fun v V s' h' as' n' y S' p dv=>?_)
    refine R.E hR0 y S' fun u U s'' h'' as'' n'' y S'' p' du=>?_
    exact qV hs y S'' (dv.pre p') du fun v V s3 n3 y S3 dv=>q _ _ _ _ _ _ y S3 (p.trans p') dv
theorem pP (R:Snd w ρ O d r) {e:Expr} {s:St} {k:Bool->St->Tr} {h:Heap} {n:Nat} {as:List Addr} {Q:Bool->Shared->Prop} {whole:Sem Value} (h2:2<=d) (hR:Room A (d + 1)) (y:(ui r env.scope e s k).ok ρ post) (S:SR w ρ O G env h s as)
  (hw:eH e=true->whole=eval e env) (q:∀c s' h' as' n',(k c s').ok ρ post->SR w ρ O G env h' s' as'->Pre as as'->Q c ⟨h',gs,dr,n',os⟩):wpAny (model pr w) A (isTrue e env whole) Q Er ⟨h,gs,dr,n,os⟩:=by
 have hR0:Room A d:=hR.le (Nat.le_succ _)
 have hu:A.units + 70 < cLine:=by have:=hR.un; (first | lia | omega)
 induction e using Expr.casesOn <;> try exact iD R hR0 y S hw q
 ·rename_i a ops cs pos
  revert y
  show (Tr.ok ρ post (match aq (aZ ops) (aZ cs) with | some q=>_ | none=>_))->_
  induction e:aq (aZ ops) (aZ cs) with
  | none=>exact fun y=>iD R hR0 y S hw q
  | some z =>
   apply bc;intro ng
   obtain ⟨z1,z2⟩:=ah e
   apply ng;clear ng
   refine aa (ba z1) (aa (ba z2) ?_)
   intro y
   dsimp only at y
   by_cases hm:behindInMarks z.1 z.2=true
   ·rw [if_pos hm] at y; exact y.elim
   ·rw [if_neg hm] at y
    rw [Bool.not_eq_true] at hm
    refine wpAny_isTrue_Compare1 (R.E hR0 y S fun v V s' h' as' n' y S' p dv=>?_) hm
    refine R.E hR0 y S' fun u U s'' h'' as'' n'' y S'' p' du=>?_
    exact kP hu y S'' (dv.pre p') du fun c s3 n3 y S3=>wpAny_truthy_bool (q _ _ _ _ _ y S3 (p.trans p'))
set_option tactic.hygienic false
theorem sM (R:Snd w ρ O d r) (hR:Room A d) {elts es:List Expr} {c0 c1:Nat} {tp p1 pos:Pos} {s:St} {k:Fl->St->Tr} {h:Heap} {n:Nat} {as:List Addr} {Q:Flow->Shared->Prop} (y:(lJ w.params r env.scope elts es (.Tuple es c1 p1) s fun s=>k .nx s).ok ρ post) (S:SR w ρ O G env h s as)
  (q:∀fl F s' h' as' n',(k fl s').ok ρ post->SR w ρ O G env h' s' as'->Pre as as'->lW ρ as' fl F->Q F ⟨h',gs,dr,n',os⟩):wpAny (model pr w) A (exec (.Assign [.Tuple elts c0 tp] (.Tuple es c1 p1) pos) env) Q Er ⟨h,gs,dr,n,os⟩:=by
 unfold lJ at y
 apply bc;intro ng
 obtain ⟨c,y⟩:=aj y
 simp only [Bool.and_eq_true,Bool.not_eq_true'] at c
 obtain ⟨⟨⟨c2,c3⟩,c4⟩,c5⟩:=c
 apply ng;clear ng
 by_cases hn:(bp env.scope elts).length=elts.length
 ·rw [if_pos hn] at y
  apply bc;intro ng
  obtain ⟨c,y⟩:=aj y
  simp only [Bool.and_eq_true,Bool.not_eq_true'] at c
  obtain ⟨⟨c6,c7⟩,c8⟩:=c
  apply ng;clear ng
  refine Assign_Tuple_swapped (R.E hR y S fun v V s' h' as' n' y S' p dv=>?_) (nB rfl) (pM S.ek c3 c4 c5 hn c6 c7 c8)
  apply bc;intro ng
  obtain ⟨vs,e,y⟩:=af y
  obtain ⟨x,Vs,rfl,dvs,l⟩:=bB S'.hat e dv
  obtain ⟨c1,y⟩:=aj y
  apply ng;clear ng
  have c1:=of_decide_eq_true c1
  have ll:=dvs.len
  have e9:(bp env.scope elts).length=Vs.toArray.size:=by rw [List.size_toArray]; (first | lia | omega)
  rw [e9]
  refine unpackItems_tuple (s:=⟨h',gs,dr,n',os⟩) hR.hd l fun h2 hx=>?_
  exact i9 y (S'.stayX hx) dvs.rev fun s3 h3 n3 y S3=>q _ _ _ _ _ _ y S3 p rfl
 ·rw [if_neg hn] at y
  refine Assign_Tuple (R.E hR y S fun v V s' h' as' n' y S' p dv=>?_) (nB rfl) (qH hn)
  apply bc;intro ng
  obtain ⟨vs,e,y⟩:=af y
  obtain ⟨x,Vs,rfl,dvs,l⟩:=bB S'.hat e dv
  obtain ⟨c1,y⟩:=aj y
  apply ng;clear ng
  have c1:=of_decide_eq_true c1
  refine assign_Tuple_tuple (s:=⟨h',gs,dr,n',os⟩) hR.hd l (by rw [(gv c2).1]; have:=dvs.len; simp; (first | lia | omega)) (gH c2) fun h2 hx=>?_
  exact dZ R hR c2 y (S'.stayX hx) dvs fun s3 h3 as3 n3 y S3 p3=>q _ _ _ _ _ _ y S3 (p.trans p3) rfl
set_option tactic.hygienic true
theorem qx (hb:HB w O) (R:Snd w ρ O d r) {b:Stmt} {s:St} {k:Fl->St->Tr} {h:Heap} {n:Nat} {as:List Addr} {Q:Flow->Shared->Prop} (hR:Room A d) (y:(rL w.params r env.scope b s k).ok ρ post) (S:SR w ρ O G env h s as)
  (q:∀fl F s' h' as' n',(k fl s').ok ρ post->SR w ρ O G env h' s' as'->Pre as as'->lW ρ as' fl F->Q F ⟨h',gs,dr,n',os⟩):wpAny (model pr w) A (exec b env) Q Er ⟨h,gs,dr,n,os⟩:=by
 induction b using Stmt.casesOn <;> try exact dq R hR y S q
 ·rename_i ts e pos
  have y:(Du w.params r env.scope (aZ ts) ts e pos s k).ok ρ post:=y
  induction e1:aZ ts with
  | none=>rw [e1] at y; exact dq R hR y S q
  | some t =>
   rw [e1] at y
   have e2:=ba e1
   cases t <;> try exact dq R hR y S q
   ·rename_i o i p
    have y:(if dH e=true then Tr.fail else _).ok ρ post:=y
    by_cases hc:dH e=true
    ·rw [if_pos hc] at y; exact y.elim
    ·rw [if_neg hc] at y
     rw [Bool.not_eq_true] at hc
     refine aa e2 ?_
     refine wpAny_Assign_Subscript (R.E hR y S fun v V s' h' as' n' y S' p dv=>?_) (i4 hc)
     refine R.E hR y S' fun ov OV s2 h2 as2 n2 y S2 p2 d2=>?_
     refine R.E hR y S2 fun iv IV s3 h3 as3 n3 y S3 p3 d3=>?_
     exact jP y S3 (d2.pre p3) d3 ((dv.pre p2).pre p3) fun s4 h4 n4 y S4=>q _ _ _ _ _ _ y S4 ((p.trans p2).trans p3) rfl
   ·rename_i elts c tp
    cases e with
    | Tuple es c2 p2 =>
     have y:(if iA (.Tuple es c2 p2)=true then lJ w.params r env.scope elts es (.Tuple es c2 p2) s (fun s=>k .nx s) else iH w.params r env.scope (.Assign ts (.Tuple es c2 p2) pos) s k:Tr).ok ρ post:=y
     by_cases hc:iA (.Tuple es c2 p2)=true
     ·rw [if_pos hc] at y
      refine aa e2 ?_
      exact sM R hR y S q
     ·rw [if_neg hc] at y
      exact dq R hR y S q
    | _=>exact dq R hR y S q
 ·rename_i tg it body els pos
  obtain ⟨x,e1,y1⟩:=af (o:=iL tg) y
  obtain ⟨px,rfl⟩:=iQ e1
  obtain ⟨c,y2⟩:=aj y1
  simp only [Bool.and_eq_true,List.isEmpty_iff,Bool.not_eq_true'] at c
  obtain ⟨rfl,hs⟩:=c
  refine wpAny_For (R.E hR y2 S fun v V s' h' as' n' y S' p dv=>?_) (dO hs)
  have key:∀{s2:St} {as2:List Addr} {j:Nat},SR w ρ O G env h' s2 as2->Pre as as2->Dn ρ as2 (.loc j) V->(dg (lstAt s2 (.loc j)) (fun zw=>lZ r env.scope x body s2.ob.length k 40 { s2 with ob:=s2.ob++[.lit j 0] }) <|
   aS (tupAt s2 (.loc j)) fun zw=>lZ r env.scope x body s2.ob.length k 40 { s2 with ob:=s2.ob++[.tit j 0] }).ok ρ post->wpAny (model pr w) A (pyIter V) (fun it s=>codeAny (model pr w) A (.forLoop (.Name x px) it body [] env) (fun r s'=>match r with | .ok f=>Q f s' | .error e=>cameBackBy (model pr w) A env Er e s') s) Er ⟨h',gs,dr,n',os⟩:=by
   intro s2 as2 j S2 p2 d2 y
   obtain ⟨a,ea,eV⟩:=id d2
   rcases aU y with ⟨vs,e,y⟩ | y
   ·obtain ⟨a',Vs,rfl,dvs,l⟩:=eB S2.hat e d2
    cases eV
    refine wpAny_pyIter_list (s:=⟨h',gs,dr,n',os⟩) l ?_
    refine ku R hR (as₀:=as) q y (S2.push _ ⟨a,Pre.get ⟨_,rfl⟩ ea,_,Heap.get?_push_size _ rfl,rfl,rfl⟩) (p2.trans ⟨_,rfl⟩) ?_
    refine aa (Eq.symm S2.sz) ?_; exact aX
   ·obtain ⟨vs,e,y⟩:=af y
    obtain ⟨a',Vs,rfl,dvs,l⟩:=bB S2.hat e d2
    cases eV
    refine iter_tuple (s:=⟨h',gs,dr,n',os⟩) l ?_
    refine ku R hR (as₀:=as) q y (S2.push _ ⟨a,Pre.get ⟨_,rfl⟩ ea,_,Heap.get?_push_size _ rfl,rfl,rfl⟩) (p2.trans ⟨_,rfl⟩) ?_
    refine aa (Eq.symm S2.sz) ?_; exact aX
  rcases mG hb y S'.sz dv with ⟨i,rfl,y⟩ | ⟨a,vs,rfl,y,F⟩
  ·exact key S' p dv y
  ·exact key (S'.tie (ao:=.fz (.tup vs)) a rfl (F _)) (p.trans ⟨_,rfl⟩) S'.lastD y
 ·rename_i t body els pos
  obtain ⟨c,y⟩:=aj y
  rw [List.isEmpty_iff] at c
  subst c
  exact wpAny_While (pU R hR q y S .refl)
set_option tactic.hygienic false
end
theorem oZ {w:World} {ρ:Rho} {O:Opq} {hk:Hk} {r0:Nat} (hb:HB w O) (h2:2<=r0) (H:ay w ρ O hk r0):∀n,Snd w ρ O (n + r0) (fS w.params hk n)
 | 0=>rW
 | n + 1=>by
  have R:=oZ hb h2 H n
  have l:n + r0<=n + 1 + r0:=by (first | decide | lia | omega)
  have e:n + r0 + 1=n + 1 + r0:=by (first | decide | lia | omega)
  exact ⟨fun hR y S q=>pQ R hb (by (first | decide | lia | omega)) (by rw [e]; exact hR) y S q,fun hR y S hw q=>pP R (by (first | decide | lia | omega)) (by rw [e]; exact hR) y S hw q,fun hR y S q=>qx hb R (hR.le l) y S q,
   fun hR y S df da q=>qR (d:=n + r0) hb (H.le (by (first | decide | lia | omega))) R (by rw [e]; exact hR) y S df da q⟩
end
noncomputable def GN (t:Tot) (k:Nat) (x y z:Int):Int:=match k with
 | 20=>bg t x 12 | 21=>bg t x 13 | 22=>bg t x 14 | 23=>bg t x 15 | 24=>bg t x 16 | 25=>bg t x 17 | _=>ff k x y z
noncomputable def gA (t:Tot) (a:List Int):Rho:=⟨fun i=>(t.l++a).getD i 0,GN t,fun zw=>[]⟩
noncomputable def GC (e:IE):List AO:=[.tup [.int (.fn 22 e (.c 0) (.c 0)),.int (.fn 23 e (.c 0) (.c 0))],.tup [.int (.fn 24 e (.c 0) (.c 0)),.int (.fn 25 e (.c 0) (.c 0))],.tup [.int (.fn 20 e (.c 0) (.c 0)),.int (.fn 21 e (.c 0) (.c 0)),.loc 0,.loc 1]]
theorem Av (e:IE):aM [0,1,2] ⟨[],[],IG,[]⟩ ⟨[],[],GC e,[]⟩=some [.ie (.v 14) (.fn 22 e (.c 0) (.c 0)),.ie (.v 15) (.fn 23 e (.c 0) (.c 0)),.ie (.v 16) (.fn 24 e (.c 0) (.c 0)),.ie (.v 17) (.fn 25 e (.c 0) (.c 0)),.ie (.v 12) (.fn 20 e (.c 0) (.c 0)),.ie (.v 13) (.fn 21 e (.c 0) (.c 0))]:=by kernel_rfl
theorem MC {w:World} {ρ:Rho} {O:Opq}:ay w ρ O aA 0:=ay.no
section
variable {w:World} {A:Around} {gs:Array GenState} {dr:Drawn} {os:OsState} {h:Heap} {n:Nat} {t:Tot}
noncomputable def OA (h:Heap):Opq:=⟨h.get?,fun zw zw=>False,fun zw h=>h.elim,fun zw h=>h.elim⟩
theorem AF (W:Wd w h) {ρ:Rho} {xs:List Addr} {x:Addr} {e:Int} {tk:Tok} {ie:IE} (T:All2 (fun x u=>aN (aB t [e]) xs h.get? x u) xs (wn 0)) (hx:xs[3]? = some x) (h0:t.s0 < 2 ^ 100) (h1:t.r0 < 2 ^ 100) (hρ:ρ.f=GN t) (he:ie.den ρ=e) (R:Room A 40) {Q:Value->Shared->Prop} {E:Value->Shared->Prop}
  (q:∀V h' n' ys,Co w ρ (OA h) h.get? h' (GC ie) [] ys->Dn ρ ys (.loc 2) V->Q V ⟨h',gs,dr,n',os⟩):wpAny (model pr w) A (call (.ref 616) [.ref x,.int e tk]) Q E ⟨h,gs,dr,n,os⟩:=by
 have C0:Co w (aB t [e]) (OA h) h.get? h ((wn 0).map .fz) [] xs:=by
  refine Co.all W (fun zw zw e=>e) ?_
  revert T
  generalize (wn 0)=us
  intro T
  have key:∀{ys:List Addr} {us:List AO},All2 (fun x u=>aN (aB t [e]) xs h.get? x u) ys us->All2 (fun a o=>aC (aB t [e]) (OA h) xs h a o/\o.own=false) ys (us.map .fz):=by
   intro ys us x
   induction x with
   | nil=>exact .nil
   | cons p _ ih=>exact .cons ⟨p,rfl⟩ ih
  exact key T
 refine DV (ρ':=⟨fun k=>if k < 12 then (aB t [e]).v k else bg t e k,ff,fun zw=>[]⟩) (v:=.loc 2) (r0:=0) MC (Ax w.params) R C0 (.cons ⟨x,hx,rfl⟩ (.cons ⟨tk,rfl⟩ .nil)) ?_ fun V h' ys n' C dv=>?_
 ·refine VC.fill (b:=12) (fun i hi=>?_) E8 (ot h0 h1) fun k hk=>?_
  ·show _=if i < 12 then _ else _; exact aa (if_pos hi) rfl
  ·show (if k < 12 then _ else _)=_; refine aa (if_neg (by (first | lia | omega))) ?_; rfl
 ·have C2:=Co.re (s:=⟨[],[],IG,[]⟩) (s':=⟨[],[],GC ie,[]⟩) (ρ':=ρ) C [0,1,2] (Av ie) (by
   simp only [bD,MP,CF,dC,hρ,he]
   refine ⟨?_,?_,?_,?_,?_,?_⟩ <;> rfl)
  exact q V h' n' _ C2 (bT (mp:=eX [0,1,2]) (u:=.loc 2) (l:=[]) (dF rfl) (by kernel_rfl) trivial dv)
end
noncomputable def FU (ob:List AO) (m:Nat):Bool:=(cE (eX [m,m + 1,m + 2,m + 3]) ob [m,m + 1,m + 2,m + 3] (wn 0)).any (jh (B2 fun i j=>i == j && Nat.ble j 10))
noncomputable def L1 (args:List AV):Option (Nat×IE):=(eA args).bind fun p=>aq p.1.l? p.2.i?
theorem Ei {args:List AV} {p:Nat×IE} (h:L1 args=some p):args = [.loc p.1,.int p.2]:=by
 apply bc;intro ng
 obtain ⟨q,e1,e⟩:=az h
 apply ng;clear ng
 exact aa (ch e1) (aa (bM (ah e).1) (aa (cO (ah e).2) rfl))
noncomputable def Mr:Hk:=fun a args ob=>(L1 args).bind fun p=>if a == 616 && Nat.ble 3 p.1 && FU ob (p.1 - 3) then some ([],.loc (2 + ob.length),ob++(GC p.2).map (AO.shift ob.length)) else none
noncomputable def FQ:Hk:=fun a args ob=>match LX a args ob with | some r=>some r | none=>Mr a args ob
theorem ay.or {w:World} {ρ:Rho} {O:Opq} {k1 k2:Hk} {d:Nat} (h1:ay w ρ O k1 d) (h2:ay w ρ O k2 d):ay w ρ O (fun a args ob=>match k1 a args ob with | some r=>some r | none=>k2 a args ob) d:=by
 intro a args ob cs v ob' e
 dsimp only at e
 induction er:k1 a args ob with
 | some r=>rw [er] at e; rw [aG e] at er; exact h1 er
 | none=>rw [er] at e; exact h2 e
theorem HP {l a b:List Int} {i:Nat} (h:i < l.length):(l++a).getD i 0=(l++b).getD i 0:=by
 exact aa (List.getD_eq_getElem?_getD) (aa (List.getD_eq_getElem?_getD) (aa (List.getElem?_append_left h) (aa (List.getElem?_append_left h) rfl)))
theorem Cl {w:World} {O:Opq} {t:Tot} {a:List Int} (h0:t.s0 < 2 ^ 100) (h1:t.r0 < 2 ^ 100):ay w (gA t a) O Mr 40:=by
 intro f args ob cs v ob' e hcs A gs dr os G h pc n as Us Q Er R S da q
 apply bc;intro ng
 obtain ⟨p,ea,e⟩:=az e
 obtain ⟨hc,e⟩:=cS e
 rw [Ei ea] at da
 cases e
 obtain ⟨U1,U2,hU,⟨x,ex,hx⟩,tk,ht⟩:=da.two
 obtain ⟨l,e1,gd⟩:=cv (au hc)
 apply ng;clear ng
 have i3:p.1 - 3 + 3=p.1:=Nat.sub_add_cancel (Nat.le_of_ble_eq_true (au (ag hc)))
 have T:=jl (ρ':=aB t [p.2.den (gA t a)]) (dF rfl) S.sz (fun i o a e e'=>(S.ob i o a e e').1) e1 (ir (fun i j z=>(congrArg (gA t a).v (aD (ag z))).trans (show (gA t a).v j=(aB t [p.2.den (gA t a)]).v j from HP (l:=t.l) (Nat.lt_succ_of_le (Nat.le_of_ble_eq_true (au z))))) gd) rfl
 refine aa hU (aa hx (aa ht (aa (aD (ag (ag hc))) ?_)))
 refine AF (ρ:=gA t a) (ie:=p.2) (e:=p.2.den (gA t a)) S.wd T (congrArg some ((congrArg (as.getD · 0) i3).trans (bE ex))) h0 h1 rfl rfl R fun V h' n' ys N dv=>?_
 have M:=S.more N rfl
 have z:=dv.shift (as:=as)
 rw [S.sz] at M z
 exact q V h' _ n' M ⟨_,rfl⟩ z
noncomputable def xE (k:Nat):List AO:=[.tup [.int (.v 16),.int (.v 17)],.opq k,.ns [(S' "ratio",.loc 0),(S' "order",.int (.v 15)),(S' "sign",.int (.v 14)),(S' "shift",.int (.c 0)),(S' "items",.loc 1),(S' "depth",.int (.v 1)),(S' "height",.int (.v 0)),(S' "width",.int (.v 13)),(S' "kind",.int (.c 2))],.inst 389 2,.tup [.int (.v 18),.int (.v 19)],.tup [.loc 3,.loc 4]]
noncomputable def K2 (P:Params):VC:=(sx P FQ 40 673 [.loc 0,.int (.v 11),.int (.v 12)] [.opq 1]).vcA [(1,0)] (.rt (.loc 5)) ⟨[],[],xE 1,[]⟩
noncomputable def LU (P:Params):VC:=(sx P FQ 40 673 [.loc 0,.int (.v 11),.int (.v 12)] [.opq 2]).vcA [(1,0)] (.rt (.loc 5)) ⟨[],[],xE 2,[]⟩
noncomputable def Kk (P:Params):VC:=(sx P FQ 40 673 [.loc 0] [.opq 1]).vcA [(1,0)] (.rt (.loc 5)) ⟨[],[],xE 1,[]⟩
noncomputable def IT (P:Params):VC:=(sx P FQ 40 673 [.loc 0] [.opq 2]).vcA [(1,0)] (.rt (.loc 5)) ⟨[],[],xE 2,[]⟩
noncomputable def inr (e:IE) (z:VC):VC:=.br (.le (.c (-1073741823)) e) (.br (.le e (.c 1073741823)) z .fail) .fail
noncomputable def CC (k:Nat) (w:IE):IE:=.fn k (.sub w (.v 2)) (.c 0) (.c 0)
noncomputable def ES (em:Bool) (x:IE):IE:=match em with | true=>.c 0 | false=>x
noncomputable def yo (em:Bool) (w:IE):VC:=inr (.v 0) (inr (.v 1) (.ok [.ie (CC 22 w) (.v 16),.ie (CC 23 w) (.v 17),.ie (CC 21 w) (.v 15),.ie (CC 20 w) (.v 14),.ie (.c 0) (.c 0),.ie (.v 1) (.v 1),.ie (.v 0) (.v 0),.ie w (.v 13),.ie (.c 2) (.c 2),.ie (ES em (CC 24 w)) (.v 18),.ie (ES em (CC 25 w)) (.v 19)]))
noncomputable def IX (em:Bool):VC:=.br (.eq (.v 11) (.c 0)) (inr (.v 12) (yo em (.v 12))) (.br (.eq (.v 11) (.c 1)) (inr (.v 12) (inr (.add (.v 2) (.v 12)) (yo em (.add (.v 2) (.v 12))))) .fail)
noncomputable def zR (em:Bool):VC:=inr (.add (.v 2) (.c 0)) (yo em (.add (.v 2) (.c 0)))
theorem we (P:Params):K2 P=IX false:=by kernel_rfl
theorem xB (P:Params):LU P=IX true:=by kernel_rfl
theorem yt (P:Params):Kk P=zR false:=by kernel_rfl
theorem vd (P:Params):IT P=zR true:=by kernel_rfl
structure HpOk (t:Tot) (mode am:Int):Prop where
 md:mode=0\/mode=1
 ab : -1073741823<=am/\am<=1073741823
 wd:mode=1->-1073741823<=t.n + am/\t.n + am<=1073741823
 H : -1073741823<=t.H/\t.H<=1073741823
 D : -1073741823<=t.D/\t.D<=1073741823
 s0:t.s0 < 2 ^ 100
 r0:t.r0 < 2 ^ 100
noncomputable def bK (t:Tot) (mode am:Int):Int:=if mode=0 then am else t.n + am
noncomputable def mA (t:Tot) (em:Bool) (mode am:Int):List Int:=[t.H,t.D,t.n,t.s0,t.s1,t.s2,t.s3,t.r0,t.r1,t.r2,t.r3,mode,am,bK t mode am,
 bg t (bK t mode am - t.n) 12,bg t (bK t mode am - t.n) 13,bg t (bK t mode am - t.n) 14,bg t (bK t mode am - t.n) 15,if em then 0 else bg t (bK t mode am - t.n) 16,if em then 0 else bg t (bK t mode am - t.n) 17]
noncomputable def gu (l:List Int):Rho:=⟨fun i=>l.getD i 0,ff,fun zw=>[]⟩
section
variable {t:Tot} {mode am:Int}
theorem hH {i:Nat} {a:List Int} (hi:i < 11):(gA t a).v i=(aB t []).v i:=by
 show (t.l++a).getD i 0=(t.l++[]).getD i 0
 unfold List.getD
 have:i < t.l.length:=by simpa [Tot.l] using hi
 rw [List.getElem?_append_left this,List.append_nil]
theorem gG {ρ ρ':Rho} {e:IE} {z:VC} (h : -1073741823<=e.den ρ/\e.den ρ<=1073741823) (k:z.den ρ ρ'):(inr e z).den ρ ρ':=⟨fun zw=>⟨fun zw=>k,fun n=>n h.2⟩,fun n=>n h.1⟩
theorem nt {em:Bool} {W:IE} {a:List Int} (o:HpOk t mode am) (hW:W.den (gA t a)=bK t mode am):(yo em W).den (gA t a) (gu (mA t em mode am)):=by
 have F:∀k,GN t k (W.den (gA t a) - t.n) 0 0=GN t k (bK t mode am - t.n) 0 0:=fun k=>by exact aa hW rfl
 refine gG o.H (gG o.D ⟨F 22,F 23,F 21,F 20,rfl,rfl,rfl,hW,rfl,?_,?_⟩) <;> induction em using Bool.casesOn
 ·exact F 24
 ·rfl
 ·exact F 25
 ·rfl
theorem rH (o:HpOk t mode am) (em:Bool):(IX em).den (gA t [mode,am]) (gu (mA t em mode am)) :=
 ⟨fun h=>gG o.ab (nt o (if_pos h).symm),fun h=>⟨fun h1=>gG o.ab (gG (o.wd h1) (nt o (if_neg h).symm)),fun h1=>o.md.elim h h1⟩⟩
theorem oO (o:HpOk t 1 0) (em:Bool):(zR em).den (gA t [1,0]) (gu (mA t em 1 0)):=gG (o.wd rfl) (nt o rfl)
variable {w:World} {A:Around} {gs:Array GenState} {dr:Drawn} {os:OsState} {g:Gr} {F:List Addr} {h:Heap} {n:Nat} {a:Addr} {Vs:List Value} {nds:List Nd}
theorem oJ (Fo:aT w g F) (It:Items g F a Vs nds) (o:HpOk (ad nds) mode am):ay w (gA (ad nds) [mode,am]) (OH g a Vs) FQ 41 :=
 ay.or (Af Fo It fun i hi=>hH hi) (ay.le (d:=40) (Cl o.s0 o.r0) (by (first | decide | lia | omega)))
theorem kD (kg:∀a o,g a=some o->h.get? a=some o) (It:Items g F a Vs nds) (W:Wd w h) {ρ:Rho}:(Vs≠[]->Co w ρ (OH g a Vs) h.get? h [.opq 1] [] [a])/\(Vs = []->Co w ρ (OH g a Vs) h.get? h [.opq 2] [] [a]):=by
 apply bc;intro ng
 obtain ⟨o,e,_⟩:=id It.list
 apply ng;clear ng
 exact ⟨fun v=>Co.all W kg (.cons ⟨⟨⟨o,e⟩,It.list,rfl,.inl ⟨rfl,v⟩⟩,rfl⟩ .nil),fun v=>Co.all W kg (.cons ⟨⟨⟨o,e⟩,It.list,rfl,.inr ⟨rfl,v⟩⟩,rfl⟩ .nil)⟩
theorem o8 {k:Nat} {h':Heap} {xs:List Addr} {ρ:Rho} {G:Gr} (C:Co w ρ (OH g a Vs) G h' (xE k) [] xs):xs[1]? = some a:=by
 have l:1 < xs.length:=by have z:xs.length=6:=C.sz; refine aa z ?_; decide
 have e:=List.getElem?_eq_getElem l
 exact e.trans (congrArg some (C.ob 1 (.opq k) _ rfl e).1.2.2.1)
theorem zu (It:Items g F a Vs nds):(Vs = []/\nds.isEmpty=true)\/(Vs≠[]/\nds.isEmpty=false):=by
 have l:=It.nodes.len
 induction nds using List.casesOn with
 | nil=>exact .inl ⟨List.length_eq_zero_iff.mp l,rfl⟩
 | cons=>exact .inr ⟨fun e=>(by rw [e] at l; cases l),rfl⟩
theorem z8 (W:Wd w h) (kg:∀a o,g a=some o->h.get? a=some o) (Fo:aT w g F) (It:Items g F a Vs nds) (o:HpOk (ad nds) mode am) (R:Room A 81) {tk tk':Tok} {Q:Value->Shared->Prop} {E:Value->Shared->Prop}
  (q:∀V h' n' xs k,Co w (gu (mA (ad nds) nds.isEmpty mode am)) (OH g a Vs) h.get? h' (xE k) [] xs->xs[1]? = some a->Dn (gu (mA (ad nds) nds.isEmpty mode am)) xs (.loc 5) V->Q V ⟨h',gs,dr,n',os⟩) :
  wpAny (model pr w) A (call (.ref 673) [.ref a,.int mode tk,.int am tk']) Q E ⟨h,gs,dr,n,os⟩:=by
 rcases zu It with ⟨hv,em⟩ | ⟨hv,em⟩ <;> rw [em] at q
 ·exact DV (v:=.loc 5) (oJ Fo It o) (xB w.params) R ((kD kg It W).2 hv) (.cons ⟨a,rfl,rfl⟩ (.cons ⟨tk,rfl⟩ (.cons ⟨tk',rfl⟩ .nil))) (rH o true) fun V h' xs n' C dv=>q V h' n' xs 2 C (o8 C) dv
 ·exact DV (v:=.loc 5) (oJ Fo It o) (we w.params) R ((kD kg It W).1 hv) (.cons ⟨a,rfl,rfl⟩ (.cons ⟨tk,rfl⟩ (.cons ⟨tk',rfl⟩ .nil))) (rH o false) fun V h' xs n' C dv=>q V h' n' xs 1 C (o8 C) dv
theorem An (W:Wd w h) (kg:∀a o,g a=some o->h.get? a=some o) (Fo:aT w g F) (It:Items g F a Vs nds) (o:HpOk (ad nds) 1 0) (R:Room A 81) {Q:Value->Shared->Prop} {E:Value->Shared->Prop}
  (q:∀V h' n' xs k,Co w (gu (mA (ad nds) nds.isEmpty 1 0)) (OH g a Vs) h.get? h' (xE k) [] xs->xs[1]? = some a->Dn (gu (mA (ad nds) nds.isEmpty 1 0)) xs (.loc 5) V->Q V ⟨h',gs,dr,n',os⟩) :
  wpAny (model pr w) A (call (.ref 673) [.ref a]) Q E ⟨h,gs,dr,n,os⟩:=by
 rcases zu It with ⟨hv,em⟩ | ⟨hv,em⟩ <;> rw [em] at q
 ·exact DV (v:=.loc 5) (oJ Fo It o) (vd w.params) R ((kD kg It W).2 hv) (.cons ⟨a,rfl,rfl⟩ .nil) (oO o true) fun V h' xs n' C dv=>q V h' n' xs 2 C (o8 C) dv
 ·exact DV (v:=.loc 5) (oJ Fo It o) (yt w.params) R ((kD kg It W).1 hv) (.cons ⟨a,rfl,rfl⟩ .nil) (oO o false) fun V h' xs n' C dv=>q V h' n' xs 1 C (o8 C) dv
end
theorem Tot.ext' {a b:Tot} (h:a.H=b.H/\a.D=b.D/\a.n=b.n/\a.s0=b.s0/\a.s1=b.s1/\a.s2=b.s2/\a.s3=b.s3/\a.r0=b.r0/\a.r1=b.r1/\a.r2=b.r2/\a.r3=b.r3):a=b:=by
 obtain ⟨a1,a2,a3,a4,a5,a6,a7,a8,a9,a10,a11⟩:=a
 obtain ⟨b1,b2,b3,b4,b5,b6,b7,b8,b9,b10,b11⟩:=b
 obtain ⟨h1,h2,h3,h4,h5,h6,h7,h8,h9,h10,h11⟩:=h
 dsimp only at *
 subst h1 h2 h3 h4 h5 h6 h7 h8 h9 h10 h11
 rfl
theorem sJ (a b c:Int):max (max a b) c=max (max a c) b:=by rw [Int.max_assoc,Int.max_comm b,<- Int.max_assoc]
theorem Tot.add_comm (t:Tot) (a b:Nd):(t.add a).add b=(t.add b).add a :=
 have r:=Int.add_right_comm
 Tot.ext' ⟨sJ _ _ _,sJ _ _ _,r _ _ _,r _ _ _,r _ _ _,r _ _ _,r _ _ _,r _ _ _,r _ _ _,r _ _ _,r _ _ _⟩
theorem mY {l m:List Nd} (p:l.Perm m):∀t:Tot,l.foldl Tot.add t=m.foldl Tot.add t:=by
 induction p with
 | nil=>intro t; rfl
 | cons x _ ih=>intro t; exact ih _
 | swap x y l=>intro t; rw [List.foldl_cons,List.foldl_cons,List.foldl_cons,List.foldl_cons,Tot.add_comm]
 | trans _ _ ih1 ih2=>intro t; exact (ih1 t).trans (ih2 t)
noncomputable def gp (f:Nd->Int):List Nd->Int->Int
 | [],x=>x
 | a::l,x=>gp f l (max x (f a))
theorem kr {f:Nd->Int}:∀(l:List Nd) (x:Int),x<=gp f l x
 | [],x=>Int.le_refl _
 | a::l,x=>Int.le_trans (Int.le_max_left _ _) (kr l _)
theorem mm {f:Nd->Int}:∀(l:List Nd) (x y:Int),gp f l (max x y)=max x (gp f l y)
 | [],x,y=>rfl
 | a::l,x,y=>by
  show gp f l (max (max x y) (f a))=max x (gp f l (max y (f a)))
  rw [Int.max_assoc,mm l]
noncomputable def aE (f:Nd->Int) (l:List Nd):Int:=(l.map f).sum
theorem iK:∀(l:List Nd) (t:Tot),l.foldl Tot.add t=⟨gp Nd.h l t.H,gp Nd.d l t.D,t.n + aE Nd.w l,t.s0 + aE (Nd.st · 0) l,t.s1 + aE (Nd.st · 1) l,t.s2 + aE (Nd.st · 2) l,t.s3 + aE (Nd.st · 3) l,
  t.r0 + aE (Nd.sh · 0) l,t.r1 + aE (Nd.sh · 1) l,t.r2 + aE (Nd.sh · 2) l,t.r3 + aE (Nd.sh · 3) l⟩
 | [],t =>
  have z:∀x:Int,x=x + aE Nd.w []:=fun x=>(Int.add_zero x).symm
  Tot.ext' ⟨rfl,rfl,z _,z _,z _,z _,z _,z _,z _,z _,z _⟩
 | a::l,t=>by
  rw [List.foldl_cons,iK l]
  have s:∀(f:Nd->Int) (x:Int),x + f a + aE f l=x + aE f (a::l):=fun f x=>by unfold aE; rw [List.map_cons,List.sum_cons,Int.add_assoc]
  exact Tot.ext' ⟨rfl,rfl,s Nd.w t.n,s (Nd.st · 0) t.s0,s (Nd.st · 1) t.s1,s (Nd.st · 2) t.s2,s (Nd.st · 3) t.s3,s (Nd.sh · 0) t.r0,s (Nd.sh · 1) t.r1,s (Nd.sh · 2) t.r2,s (Nd.sh · 3) t.r3⟩
theorem cP (l:List Nd):ad l=⟨gp Nd.h l 0,gp Nd.d l 0,aE Nd.w l,aE (Nd.st · 0) l,aE (Nd.st · 1) l,aE (Nd.st · 2) l,aE (Nd.st · 3) l,aE (Nd.sh · 0) l,aE (Nd.sh · 1) l,aE (Nd.sh · 2) l,aE (Nd.sh · 3) l⟩:=by
 unfold ad
 rw [iK]
 simp [Tot.zero]
theorem iF {f:Nd->Int} (l m:List Nd):aE f (l++m)=aE f l + aE f m:=by simp [aE]
def Nd.noG (nd:Nd):Prop:=nd.k≠.skp
theorem tf {nd:Nd} (h:nd.noG) (k:Int):nd.st k=0/\nd.sh k=0:=by
 obtain ⟨k',a⟩:=nd
 cases k' <;> first | exact ⟨rfl,rfl⟩ | exact absurd rfl h
theorem eQ {f:Nd->Int}:∀{l:List Nd},(∀a∈l,f a=0)->aE f l=0
 | [],_=>rfl
 | a::l,h=>by
  have:=eQ (f:=f) (l:=l) fun b m=>h b (.tail _ m)
  simp only [aE,List.map_cons,List.sum_cons] at this ⊢
  refine aa (h a (.head _)) (aa this ?_); rfl
noncomputable def dP (run:List Nd):Nd:=⟨.pck,[(ad run).n,(ad run).H,(ad run).D,0]⟩
theorem ud {run:List Nd} (h:∀a∈run,a.noG) {t:Tot} (h0:0<=t.H) (h1:0<=t.D):run.foldl Tot.add t=t.add (dP run):=by
 have st:∀k,aE (Nd.st · k) run=0:=fun k=>eQ fun a m=>(tf (h a m) k).1
 have sh:∀k,aE (Nd.sh · k) run=0:=fun k=>eQ fun a m=>(tf (h a m) k).2
 have e:∀f x,0<=x->gp f run x=max x (gp f run 0):=fun f x hx=>by rw [<- mm,Int.max_eq_left hx]
 have H:(dP run).h=gp Nd.h run 0:=(Int.sub_zero _).trans (congrArg Tot.H (cP run))
 have D:(dP run).d=gp Nd.d run 0:=(Int.add_zero _).trans (congrArg Tot.D (cP run))
 rw [iK]
 exact Tot.ext' ⟨(e _ _ h0).trans (congrArg _ H.symm),(e _ _ h1).trans (congrArg _ D.symm),congrArg (t.n + ·) (congrArg Tot.n (cP run)).symm,
  congrArg (t.s0 + ·) (st 0),congrArg (t.s1 + ·) (st 1),congrArg (t.s2 + ·) (st 2),congrArg (t.s3 + ·) (st 3),congrArg (t.r0 + ·) (sh 0),congrArg (t.r1 + ·) (sh 1),congrArg (t.r2 + ·) (sh 2),congrArg (t.r3 + ·) (sh 3)⟩
theorem pR {pre run post:List Nd} (h:∀a∈run,a.noG):ad (pre++[dP run]++post)=ad (pre++run++post):=by
 have h0:0<=(ad pre).H:=by rw [cP]; exact kr _ _
 have h1:0<=(ad pre).D:=by rw [cP]; exact kr _ _
 unfold ad at *
 refine aa List.foldl_append (aa List.foldl_append (aa List.foldl_append (aa List.foldl_append (aa (ud h h0 h1) ?_)))); rfl
noncomputable def pos (B:Bx):Int->Int->List Nd->List Int
 | _,_,[]=>[]
 | x,f,nd::r=>(x + nd.w + zM (B.p * (f + nd.fl B)) B.q)::pos B (x + nd.w) (f + nd.fl B) r
noncomputable def av (B:Bx) (nds:List Nd):List Int:=0::pos B 0 0 nds
theorem cJ {f:Nd->Int} {a:Nd} {l:List Nd}:aE f (a::l)=f a + aE f l:=by unfold aE; exact aa List.map_cons (aa List.sum_cons rfl)
theorem oD {B:Bx}:∀(l:List Nd) (t:Pl),l.foldl (Pl.add B) t=⟨t.fx + aE Nd.w l,t.fl + aE (Nd.fl B) l,t.out++pos B t.fx t.fl l⟩
 | [],t=>by rw [List.foldl_nil]; show t=⟨t.fx + 0,t.fl + 0,t.out++[]⟩; rw [Int.add_zero,Int.add_zero,List.append_nil]
 | a::l,t=>by
  rw [List.foldl_cons,oD l,cJ,cJ,<- Int.add_assoc,<- Int.add_assoc]
  exact congrArg (Pl.mk _ _) (List.append_assoc _ _ _)
theorem cj {B:Bx} (l:List Nd):(bw B l).out=av B l:=by
 unfold bw
 rw [oD]
 simp [Pl.zero,av]
theorem gj {B:Bx}:∀(l:List Nd) (x f:Int),(pos B x f l).length=l.length
 | [],_,_=>rfl
 | a::l,x,f=>by simp [pos,gj l]
theorem im {B:Bx}:∀(l m:List Nd) (x f:Int),pos B x f (l++m)=pos B x f l++pos B (x + aE Nd.w l) (f + aE (Nd.fl B) l) m
 | [],m,x,f=>by show pos B x f m=pos B (x + 0) (f + 0) m; rw [Int.add_zero,Int.add_zero]
 | a::l,m,x,f=>by
  rw [List.cons_append,cJ,cJ,<- Int.add_assoc,<- Int.add_assoc]
  exact congrArg (_ :: ·) (im l m _ _)
noncomputable def uR (B:Bx) (x f:Int):Int:=x + zM (B.p * f) B.q
theorem mn {B:Bx}:∀(l m:List Nd) (x f:Int),((uR B x f)::pos B x f (l++m)).drop l.length=uR B (x + aE Nd.w l) (f + aE (Nd.fl B) l)::pos B (x + aE Nd.w l) (f + aE (Nd.fl B) l) m
 | [],m,x,f=>by show _=uR B (x + 0) (f + 0)::pos B (x + 0) (f + 0) m; rw [Int.add_zero,Int.add_zero]; rfl
 | a::l,m,x,f=>by
  rw [cJ,cJ,<- Int.add_assoc,<- Int.add_assoc]
  exact mn (B:=B) l m (x + a.w) (f + a.fl B)
theorem K9 {q:Int} (h:1<=q):zM 0 q=0:=by
 unfold zM
 refine aa (if_neg (by (first | decide | lia | omega))) ?_
 have:(2 * 0 + q) / (2 * q)=0:=Int.ediv_eq_zero_of_lt (by (first | decide | lia | omega)) (by (first | decide | lia | omega))
 exact this
theorem NH {B:Bx} (h:B.ok):uR B 0 0=0:=by
 unfold uR
 rw [Int.mul_zero,K9 h.q0]; rfl
theorem fY {B:Bx} (h:B.ok) (l m:List Nd):(av B (l++m)).drop l.length=uR B (aE Nd.w l) (aE (Nd.fl B) l)::pos B (aE Nd.w l) (aE (Nd.fl B) l) m:=by
 have:=mn (B:=B) l m 0 0
 rw [NH h,Int.zero_add,Int.zero_add] at this
 exact this
theorem mE {B:Bx} (l m:List Nd):(av B (l++m)).take (l.length + 1)=0::pos B 0 0 l:=by
 unfold av
 rw [List.take_succ_cons,im,List.take_left' (gj l 0 0)]
theorem mC {B:Bx} {nd:Nd} (h:nd.noG):nd.fl B=0:=by
 obtain ⟨k',a⟩:=nd
 cases k' <;> first | rfl | exact absurd rfl h
theorem lq {B:Bx} (h:B.ok) {pre run post:List Nd} (hr:∀a∈run,a.noG) :
  av B (pre++[dP run]++post)=(av B (pre++run++post)).take (pre.length + 1)++(av B (pre++run++post)).drop (pre.length + run.length):=by
 have fz:aE (Nd.fl B) run=0:=eQ fun a m=>mC (hr a m)
 have w:(dP run).w=aE Nd.w run:=by show (ad run).n=_; rw [cP]
 have f:(dP run).fl B=0:=rfl
 rw [show pre++run++post=pre++(run++post) by simp,mE,show pre++(run++post)=(pre++run)++post by simp,show pre.length + run.length=(pre++run).length by simp,fY h,iF,iF,fz,Int.add_zero]
 unfold av
 rw [List.append_assoc,im,Int.zero_add,Int.zero_add]
 simp only [List.singleton_append,pos,w,f,Int.add_zero,List.cons_append]
 rfl
theorem pA {B:Bx}:∀(run:List Nd),(∀a∈run,a.noG)->∀(x f y:Int),(pos ⟨0,0,0,1⟩ y 0 run).map (uR B x f + ·)=pos B (x + y) f run
 | [],_,_,_,_=>rfl
 | a::l,hr,x,f,y=>by
  have z:a.fl ⟨0,0,0,1⟩=0:=mC (hr a (.head _))
  have z':a.fl B=0:=mC (hr a (.head _))
  simp only [pos,List.map_cons,z,z',Int.add_zero]
  refine aa (pA (B:=B) l (fun b m=>hr b (.tail _ m)) x f (y + a.w)) ?_
  have e0:zM ((0:Int) * 0) 1=0:=rfl
  refine aa e0 (aa (show x + (y + a.w)=x + y + a.w by (first | decide | lia | omega)) ?_)
  congr 1
  unfold uR; (first | decide | lia | omega)
theorem qW {B:Bx} (h:B.ok) {pre run post:List Nd} (hr:∀a∈run,a.noG) :
  (av ⟨0,0,0,1⟩ run).map (((av B (pre++run++post)).getD pre.length 0) + ·)=((av B (pre++run++post)).drop pre.length).take (run.length + 1):=by
 have d:=fY h pre (run++post)
 rw [<- List.append_assoc] at d
 have g:(av B (pre++run++post)).getD pre.length 0=uR B (aE Nd.w pre) (aE (Nd.fl B) pre):=by
  have:=congrArg (fun l=>l.getD 0 0) d
  simp only [List.getD_cons_zero] at this
  refine aa (Eq.symm this) ?_
  simp [List.getD,List.getElem?_drop]
 rw [g,d,im,List.take_succ_cons,List.take_left' (gj run _ _)]
 unfold av
 rw [List.map_cons,pA run hr,Int.add_zero,Int.add_zero]
theorem fN {B:Bx} (h:B.ok) (l:List Nd):(av B l).getLast? = some (uR B (aE Nd.w l) (aE (Nd.fl B) l)):=by
 have d:=fY h l []
 rw [List.append_nil] at d
 have:(av B l).length=l.length + 1:=by simp [av,gj]
 rw [List.getLast?_eq_getElem?,this,Nat.add_sub_cancel]
 have e:=congrArg (fun l=>l[0]?) d
 simpa [List.getElem?_drop] using e
noncomputable def ON:Opq:=⟨fun zw=>none,fun zw zw=>False,fun zw h=>h.elim,fun zw h=>h.elim⟩
noncomputable def G1 (h:Heap) (x:Addr):Gr:=fun b=>if b=x then none else h.get? b
noncomputable def Nt (P:Params):VC:=(sx P aA 40 857 [.loc 0,.int (.v 2)] [.lst [.int (.v 0),.int (.v 1)]]).vc [0] (.rt (.int (.v 5))) ⟨[],[],[.lst [.int (.v 3),.int (.v 4)]],[]⟩
noncomputable def Np (P:Params) (hk:Hk):VC:=(sx P hk 40 864 [.loc 0] [.lst [.int (.v 0),.int (.v 1)]]).vc [0] (.rt (.int (.v 5))) ⟨[],[],[.lst [.int (.v 3),.int (.v 4)]],[]⟩
noncomputable def lX (ob:List AO) (i:Nat):Option (IE×IE):=((ob[i]?).bind AO.lst?).bind fun l=>(eA l).bind fun p=>aq p.1.i? p.2.i?
noncomputable def fF:Hk:=fun a args ob=>(eA args).bind fun p=>p.1.l?.bind fun i=>p.2.i?.bind fun m=>(lX ob i).bind fun x =>
 if a == 857 then some ([.lt (.c 0) m,.lt m (.c 1000000),.le (.c 0) x.2,.lt x.2 (.c 1000000)],.int (.fn 30 x.1 x.2 m),ob.set i (.lst [.int (.fn 31 x.1 x.2 m),.int (.add x.2 (.c 1))])) else none
theorem z7 (P:Params):Nt P=VC.br (CE.eq (IE.v 0) (IE.c 0)) (VC.req (CE.mulok (IE.mul (IE.c 7) (IE.add (IE.v 1) (IE.c 1))) (IE.add (IE.v 1) (IE.c 1))) (VC.req (CE.lt (IE.c 0) (IE.v 2)) (VC.ok [Ob1.ie (IE.mod (IE.mod (IE.add (IE.add (IE.mul (IE.mul (IE.c 7) (IE.add (IE.v 1) (IE.c 1))) (IE.add (IE.v 1) (IE.c 1))) (IE.mul (IE.c 5) (IE.add (IE.v 1) (IE.c 1)))) (IE.c 3)) (IE.c 101)) (IE.v 2)) (IE.v 5),Ob1.ie (IE.v 0) (IE.v 3),Ob1.ie (IE.add (IE.v 1) (IE.c 1)) (IE.v 4)]))) (VC.req (CE.lt (IE.c 0) (IE.v 2)) (VC.req (CE.lt (IE.c 0) (IE.v 2)) (VC.req (CE.lt (IE.v 2) (IE.c 1606938044258990275541962092341162602522202993782792835301376)) (VC.ok [Ob1.ie (IE.mod (IE.v 0) (IE.v 2)) (IE.v 5),Ob1.ie (IE.div (IE.v 0) (IE.v 2)) (IE.v 3),Ob1.ie (IE.add (IE.v 1) (IE.c 1)) (IE.v 4)])))):=by kernel_rfl
noncomputable def CB:VC:=VC.req (CE.le (IE.c 0) (IE.v 1)) (VC.req (CE.lt (IE.v 1) (IE.c 1000000)) (VC.br (CE.lt (IE.fn 30 (IE.v 0) (IE.v 1) (IE.c 6)) (IE.c 2)) (VC.br (CE.eq (IE.fn 30 (IE.v 0) (IE.v 1) (IE.c 6)) (IE.c 1)) (VC.req (CE.le (IE.c 0) (IE.add (IE.v 1) (IE.c 1))) (VC.req (CE.lt (IE.add (IE.v 1) (IE.c 1)) (IE.c 1000000)) (VC.ok [Ob1.ie (IE.neg (IE.fn 30 (IE.fn 31 (IE.v 0) (IE.v 1) (IE.c 6)) (IE.add (IE.v 1) (IE.c 1)) (IE.c 9))) (IE.v 5),Ob1.ie (IE.fn 31 (IE.fn 31 (IE.v 0) (IE.v 1) (IE.c 6)) (IE.add (IE.v 1) (IE.c 1)) (IE.c 9)) (IE.v 3),Ob1.ie (IE.add (IE.add (IE.v 1) (IE.c 1)) (IE.c 1)) (IE.v 4)]))) (VC.ok [Ob1.ie (IE.c 0) (IE.v 5),Ob1.ie (IE.fn 31 (IE.v 0) (IE.v 1) (IE.c 6)) (IE.v 3),Ob1.ie (IE.add (IE.v 1) (IE.c 1)) (IE.v 4)])) (VC.br (CE.eq (IE.fn 30 (IE.v 0) (IE.v 1) (IE.c 6)) (IE.c 5)) (VC.req (CE.le (IE.c 0) (IE.add (IE.v 1) (IE.c 1))) (VC.req (CE.lt (IE.add (IE.v 1) (IE.c 1)) (IE.c 1000000)) (VC.req (CE.le (IE.c 0) (IE.add (IE.add (IE.v 1) (IE.c 1)) (IE.c 1))) (VC.req (CE.lt (IE.add (IE.add (IE.v 1) (IE.c 1)) (IE.c 1)) (IE.c 1000000)) (VC.ok [Ob1.ie (IE.add (IE.mul (IE.c 65536) (IE.fn 30 (IE.fn 31 (IE.v 0) (IE.v 1) (IE.c 6)) (IE.add (IE.v 1) (IE.c 1)) (IE.c 60))) (IE.fn 30 (IE.fn 31 (IE.fn 31 (IE.v 0) (IE.v 1) (IE.c 6)) (IE.add (IE.v 1) (IE.c 1)) (IE.c 60)) (IE.add (IE.add (IE.v 1) (IE.c 1)) (IE.c 1)) (IE.c 7))) (IE.v 5),Ob1.ie (IE.fn 31 (IE.fn 31 (IE.fn 31 (IE.v 0) (IE.v 1) (IE.c 6)) (IE.add (IE.v 1) (IE.c 1)) (IE.c 60)) (IE.add (IE.add (IE.v 1) (IE.c 1)) (IE.c 1)) (IE.c 7)) (IE.v 3),Ob1.ie (IE.add (IE.add (IE.add (IE.v 1) (IE.c 1)) (IE.c 1)) (IE.c 1)) (IE.v 4)]))))) (VC.req (CE.le (IE.c 0) (IE.add (IE.v 1) (IE.c 1))) (VC.req (CE.lt (IE.add (IE.v 1) (IE.c 1)) (IE.c 1000000)) (VC.ok [Ob1.ie (IE.add (IE.c 1) (IE.fn 30 (IE.fn 31 (IE.v 0) (IE.v 1) (IE.c 6)) (IE.add (IE.v 1) (IE.c 1)) (IE.c 30))) (IE.v 5),Ob1.ie (IE.fn 31 (IE.fn 31 (IE.v 0) (IE.v 1) (IE.c 6)) (IE.add (IE.v 1) (IE.c 1)) (IE.c 30)) (IE.v 3),Ob1.ie (IE.add (IE.add (IE.v 1) (IE.c 1)) (IE.c 1)) (IE.v 4)]))))))
theorem B4 (P:Params):Np P fF=CB:=by kernel_rfl
noncomputable def bt (a c m:Int):Int:=if a=0 then (7 * (c + 1) * (c + 1) + 5 * (c + 1) + 3) % 101 % m else a % m
noncomputable def bY (a c m:Int):Int:=if a=0 then a else a / m
theorem bC {a c m:Int} (hm:0 < m):0<=bt a c m/\bt a c m < m:=by
 unfold bt; split
 ·exact ⟨Int.emod_nonneg _ (by (first | lia | omega)),Int.emod_lt_of_pos _ hm⟩
 ·exact ⟨Int.emod_nonneg _ (by (first | lia | omega)),Int.emod_lt_of_pos _ hm⟩
theorem lC {ob:List AO} {i:Nat} {p:IE×IE} (e:lX ob i=some p):ob[i]? = some (.lst [.int p.1,.int p.2]):=by
 apply bc;intro ng
 obtain ⟨l,e1,e⟩:=az e
 obtain ⟨o,e0,e1⟩:=az e1
 obtain ⟨v,e2,e3⟩:=az e
 rw [e0,cy e1,ch e2,cO (ah e3).1,cO (ah e3).2] at ng
 exact ng rfl
def gV (w:World) (g:Gr):Prop:=∃hb,Wd w hb/\∀a o,hb.get? a=some o->g a=some o
section
variable {w:World} {ρ:Rho} {O:Opq} {G:Gr} {A:Around} {gs:Array GenState} {dr:Drawn} {os:OsState} {h h':Heap} {n:Nat}
theorem Co.own1 {y:Addr} {ao:AO} (B:gV w (G1 h y)) (hy:aC ρ ON [y] h y ao):Co w ρ ON (G1 h y) h [ao] [] [y]:=by
 refine ⟨B,fun a o e=>?_,fun a o e=>(nomatch e),rfl,fun i o a e e'=>?_,fun i j o o' a e1 e2 w1 w2 e3 e4=>?_,fun zw m=>nomatch m⟩
 ·unfold G1 at e; split at e
  ·exact ap e
  ·exact e
 ·induction i using Nat.casesOn with
  | zero=>simp at e e'; subst e e'; exact ⟨hy,fun zw=>by unfold G1; exact aa (if_pos rfl) rfl⟩
  | succ i=>simp at e
 ·have l1:=(List.getElem?_eq_some_iff.mp e1).1
  have l2:=(List.getElem?_eq_some_iff.mp e2).1
  simp at l1 l2; (first | lia | omega)
theorem Co.keep1 {y:Addr} {ob:List AO} {pc:List (CE×Bool)} {as:List Addr} (C:Co w ρ ON (G1 h y) h' ob pc as):∀b o,b≠y->h.get? b=some o->h'.get? b=some o:=fun b o n e=>C.kp b o (by unfold G1; refine aa (if_neg n) ?_; exact e)
theorem uN {y:Addr} {Vs:List Value} {x c m:Int} {t:Tok} (B:gV w (G1 h y)) (L:At h.get? y (.lst Vs)) (hi:IntsAre Vs [x,c]) (hm:0 < m/\m < 1000000) (hc:0<=c/\c < 1000000) (R:Room A 40) {Q:Value->Shared->Prop} {E:Value->Shared->Prop}
  (q:∀h' n' tk Vs',(∀b o,b≠y->h.get? b=some o->h'.get? b=some o)->At h'.get? y (.lst Vs')->IntsAre Vs' [bY x c m,c + 1]->Q (.int (bt x c m) tk) ⟨h',gs,dr,n',os⟩) :
  wpAny (model pr w) A (call (.ref 857) [.ref y,.int m t]) Q E ⟨h,gs,dr,n,os⟩:=by
 apply bc;intro ng
 obtain ⟨t0,t1,eV⟩:=jz hi
 have C0:Co w (gu [x,c,m]) ON (G1 h y) h [.lst [.int (.v 0),.int (.v 1)]] [] [y]:=Co.own1 B ⟨_,.cons ⟨t0,rfl⟩ (.cons ⟨t1,rfl⟩ .nil),eV▸L⟩
 have hs:Builtin.Int.intBits (7 * (c + 1))<=64:=jR (by omega)
 refine ng (MB (ρ':=gu [x,c,m,bY x c m,c + 1,bt x c m]) (v:=.int (.v 5)) (r0:=0) MC (z7 w.params) R C0 (.cons ⟨y,rfl,rfl⟩ (.cons ⟨t,rfl⟩ .nil)) ⟨fun h0=>⟨IntMulOk.of_left hs,hm.1,(if_pos h0).symm,(if_pos h0).symm,rfl⟩,fun h0=>⟨hm.1,hm.1,?_,(if_neg h0).symm,(if_neg h0).symm,rfl⟩⟩ fun V h' as' n' C p dv=>?_)
 ·exact Int.lt_trans hm.2 (show (1000000:Int) < 1606938044258990275541962092341162602522202993782792835301376 by decide)
 ·apply bc;intro ng
  obtain ⟨tk,ev⟩:=dv
  obtain ⟨tt,rfl⟩:=p
  obtain ⟨Vs',z1,z2⟩:=(C.ob 0 _ y rfl rfl).1
  rw [ev] at ng
  exact ng (q h' n' tk Vs' C.keep1 z2 (dK (es:=[.v 3,.v 4]) z1))
theorem Co.set1 {ob:List AO} {pc:List (CE×Bool)} {as:List Addr} (S:Co w ρ O G h ob pc as) {i:Nat} {o o':AO} {y:Addr} (eo:ob[i]? = some o) (ow:o.own=true) (ea:as[i]? = some y) (k:∀b x,b≠y->h.get? b=some x->h'.get? b=some x) (z:aC ρ O as h' y o'):Co w ρ O G h' (ob.set i o') pc as:=by
 have hg:=(S.ob i o y eo ea).2 ow
 have hi:i < ob.length:=(List.getElem?_eq_some_iff.mp eo).1
 refine ⟨S.bs,fun b x e=>k b x (fun q=>by rw [q,hg] at e; exact ap e) (S.kp b x e),S.og,by simp [S.sz],fun j x b e e'=>?_,fun j j' x x' b e1 e2 w1 w2 e3 e4=>?_,S.pc⟩
 ·by_cases hij:i=j
  ·subst hij
   rw [ea] at e'; cases e'
   rw [List.getElem?_set_self hi] at e
   cases e
   exact ⟨z,fun zw=>hg⟩
  ·rw [List.getElem?_set_ne hij] at e
   obtain ⟨x1,x2⟩:=S.ob j x b e e'
   refine ⟨x1.keep .refl fun w x' ex=>k b x' (fun q=>?_) ex,x2⟩
   subst q
   exact hij (S.nd i j o x b eo e ow w ea e')
 ·have f:∀(j:Nat) x,(ob.set i o')[j]? = some x->x.own=true->∃x0,ob[j]? = some x0/\x0.own=true:=fun j x e w=>by
   by_cases hij:i=j
   ·subst hij; exact ⟨o,eo,ow⟩
   ·rw [List.getElem?_set_ne hij] at e; exact ⟨x,e,w⟩
  obtain ⟨y1,y2,y3⟩:=f j x e1 w1
  obtain ⟨z1,z2,z3⟩:=f j' x' e2 w2
  exact S.nd j j' y1 z1 b y2 z2 y3 z3 e3 e4
theorem Co.bsOn {ob:List AO} {pc:List (CE×Bool)} {as:List Addr} (S:Co w ρ O G h ob pc as) {y:Addr} (hy:G y=none):gV w (G1 h y):=by
 obtain ⟨hb,W,k⟩:=S.bs
 refine ⟨hb,W,fun a o e=>?_⟩
 unfold G1
 refine aa (if_neg (fun q=>by have:=k a o e; rw [q,hy] at this; cases this)) ?_
 exact S.kp _ _ (k a o e)
theorem mD {ob:List AO} {i:Nat} {p:IE×IE} (e:lX ob i=some p) {G:Gr} {h:Heap} {pc:List (CE×Bool)} {as:List Addr} (S:Co w ρ O G h ob pc as) {a:Addr} (ea:as[i]? = some a):ob[i]? = some (.lst [.int p.1,.int p.2])/\∃Vs,At h.get? a (.lst Vs)/\IntsAre Vs [p.1.den ρ,p.2.den ρ]/\G a=none :=
 let ⟨⟨Vs,v1,v2⟩,g⟩:=S.ob i _ a (lC e) ea
 ⟨lC e,Vs,v2,dK (es:=[p.1,p.2]) v1,g rfl⟩
theorem dY {Vs:List Value} {x y:IE} {as:List Addr} {m k:Int} (i:IntsAre Vs [m,k]) (e1:x.den ρ=m) (e2:y.den ρ=k):All2 (Dn ρ as) [.int x,.int y] Vs :=
 let ⟨t0,t1,e⟩:=jz i
 e▸.cons ⟨t0,congrArg (Value.int · t0) e1.symm⟩ (.cons ⟨t1,congrArg (Value.int · t1) e2.symm⟩ .nil)
theorem eD (h30:ρ.f 30=bt) (h31:ρ.f 31=bY):ay w ρ O fF 40:=by
 intro f args ob cs v ob' e hcs A gs dr os G h pc n as Us Q Er R S da q
 apply bc;intro ng
 obtain ⟨p,ep,e⟩:=az e
 obtain ⟨i,ei,e⟩:=az e
 obtain ⟨m,em,e⟩:=az e
 obtain ⟨x,e2,e⟩:=az e
 obtain ⟨hc,e⟩:=cS e
 cases e
 rw [ch ep,bM ei,cO em] at da
 obtain ⟨b,b',hU,⟨y,ey,hy⟩,t,ht⟩:=da.two
 obtain ⟨eo,Vs,v1,v2,ga⟩:=mD e2 S ey
 rw [hU,hy,ht,aD hc] at ng
 exact ng (uN (S.bsOn ga) v1 v2 ⟨hcs _ (.head _),hcs _ (.tail _ (.head _))⟩ ⟨hcs _ (.tail _ (.tail _ (.head _))),hcs _ (.tail _ (.tail _ (.tail _ (.head _))))⟩ R fun h' n' tk Vs' kk L' I' =>
  q _ h' as n' (S.set1 (o':=.lst [.int (.fn 31 x.1 x.2 m),.int (.add x.2 (.c 1))]) eo rfl ey kk ⟨_,dY I' (by exact aa CF (aa h31 rfl)) rfl,L'⟩) .refl ⟨tk,by exact aa CF (aa h30 rfl)⟩)
end
theorem NT {ρ:Rho} {φ:List Ob1->Prop} {c:CE} {a b:VC}:VC.leafs ρ φ (.br c a b)=((c.den ρ->a.leafs ρ φ)/\(¬c.den ρ->b.leafs ρ φ)):=rfl
theorem NQ {ρ:Rho} {φ:List Ob1->Prop} {c:CE} {a:VC}:VC.leafs ρ φ (.req c a)=(c.den ρ->a.leafs ρ φ):=rfl
theorem NV {ρ:Rho} {φ:List Ob1->Prop} {l:List Ob1}:VC.leafs ρ φ (.ok l)=φ l:=rfl
theorem Ma {ρ:Rho} {φ:List Ob1->Prop}:VC.leafs ρ φ .fail=True:=rfl
noncomputable def oq (ρ:Rho) (k:Nat) (l:List Ob1):Int:=match bv k l with | some e=>e.den ρ | none=>0
noncomputable def ky (b:Nat) (ρ:Rho) (vc:VC):Rho:=⟨fun k=>if k < b then ρ.v k else vc.ev ρ k,ρ.f,ρ.l⟩
theorem zr {b:Nat} {ρ:Rho} {vc:VC} (w:vc.wf b=true) (s:vc.safe ρ):vc.den ρ (ky b ρ vc) :=
 VC.fill (b:=b) (fun i hi=>by show _=if i < b then _ else _; exact aa (if_pos hi) rfl) w s fun k hk=>by show (if k < b then _ else _)=_; exact aa (if_neg (by (first | lia | omega))) rfl
noncomputable def GH (k:Nat) (a b c:Int):Int:=match k with | 30=>bt a b c | 31=>bY a b c | _=>ff k a b c
noncomputable def jJ (l:List Int):Rho:=⟨fun i=>l.getD i 0,GH,fun zw=>[]⟩
noncomputable def kE (k:Nat) (a c:Int):Int:=CB.ev (jJ [a,c]) k
theorem DY:CB.wf 3=true:=by kernel_rfl
theorem oB {a c:Int} (hc:0<=c/\c < 999000):CB.safe (jJ [a,c]):=by
 have h1:c < 1000000:=by lia
 have h2:0<=c + 1:=by lia
 have h3:c + 1 < 1000000:=by lia
 have h4:0<=c + 1 + 1:=by lia
 have h5:c + 1 + 1 < 1000000:=by lia
 exact ⟨hc.1,h1,fun zw=>⟨fun zw=>⟨h2,h3,trivial⟩,fun zw=>trivial⟩,fun zw=>⟨fun zw=>⟨h2,h3,h4,h5,trivial⟩,fun zw=>⟨h2,h3,trivial⟩⟩⟩
theorem zh {a c:Int} (hc:0<=c/\c < 999000) : -8<=kE 5 a c/\kE 5 a c<=3866630/\c<=kE 4 a c/\kE 4 a c<=c + 3:=by
 have lf:CB.leafs (jJ [a,c]) fun l=>-8<=oq (jJ [a,c]) 5 l/\oq (jJ [a,c]) 5 l<=3866630/\c<=oq (jJ [a,c]) 4 l/\oq (jJ [a,c]) 4 l<=c + 3:=by
  have b9:=fun x y=>bC (a:=x) (c:=y) (m:=9) (by (first | decide | lia | omega))
  have b60:=fun x y=>bC (a:=x) (c:=y) (m:=60) (by (first | decide | lia | omega))
  have b30:=fun x y=>bC (a:=x) (c:=y) (m:=30) (by (first | decide | lia | omega))
  have b7:=fun x y=>bC (a:=x) (c:=y) (m:=7) (by (first | decide | lia | omega))
  intro _ _
  refine ⟨fun zw=>⟨fun zw zw zw=>?_,fun zw=>?_⟩,fun zw=>⟨fun zw zw zw zw zw=>?_,fun zw zw zw=>?_⟩⟩
  ·have:=b9 (bY a c 6) (c + 1)
   show -8<=-(bt (bY a c 6) (c + 1) 9)/\-(bt (bY a c 6) (c + 1) 9)<=3866630/\c<=c + 1 + 1/\c + 1 + 1<=c + 3
   (first | decide | lia | omega)
  ·show -8<=(0:Int)/\(0:Int)<=3866630/\c<=c + 1/\c + 1<=c + 3
   (first | decide | lia | omega)
  ·have:=b60 (bY a c 6) (c + 1); have:=b7 (bY (bY a c 6) (c + 1) 60) (c + 1 + 1)
   show -8<=65536 * bt (bY a c 6) (c + 1) 60 + bt (bY (bY a c 6) (c + 1) 60) (c + 1 + 1) 7/\65536 * bt (bY a c 6) (c + 1) 60 + bt (bY (bY a c 6) (c + 1) 60) (c + 1 + 1) 7<=3866630/\c<=c + 1 + 1 + 1/\c + 1 + 1 + 1<=c + 3
   (first | decide | lia | omega)
  ·have:=b30 (bY a c 6) (c + 1)
   show -8<=1 + bt (bY a c 6) (c + 1) 30/\1 + bt (bY a c 6) (c + 1) 30<=3866630/\c<=c + 1 + 1/\c + 1 + 1<=c + 3
   (first | decide | lia | omega)
 apply bc;intro ng
 obtain ⟨l,h1,h2⟩:=VC.leaf (oB hc) lf
 apply ng;clear ng
 unfold kE
 refine aa (h2 5) (aa (h2 4) ?_)
 exact h1
section
variable {w:World} {ρ:Rho} {O:Opq} {G:Gr} {A:Around} {gs:Array GenState} {dr:Drawn} {os:OsState} {h h':Heap} {n:Nat}
set_option tactic.hygienic true
theorem tQ {ρ':Rho} {y:Addr} {as':List Addr} {x c:IE} (C:Co w ρ' ON G h' [.lst [.int x,.int c]] [] ([0].map fun j=>as'.getD j 0)) (e0:as'[0]? = some y):∃Vs',At h'.get? y (.lst Vs')/\IntsAre Vs' [x.den ρ',c.den ρ']:=by
 apply bc;intro ng
 obtain ⟨y',e1,Vs',z1,z2⟩:∃y',([0].map fun j=>as'.getD j 0)[0]? = some y'/\aN ρ' ([0].map fun j=>as'.getD j 0) h'.get? y' (.lst [.int x,.int c]):=⟨_,rfl,(C.ob 0 _ _ rfl rfl).1⟩
 simp [List.getD,e0] at e1
 subst e1
 apply ng;clear ng
 cases z1; rename_i d0 z1; cases z1; rename_i d1 z1; cases z1
 apply bc;intro ng
 obtain ⟨u0,rfl⟩:=d0
 obtain ⟨u1,rfl⟩:=d1
 apply ng;clear ng
 exact ⟨_,z2,.cons _ _ (.cons _ _ .nil)⟩
theorem tX {y:Addr} {Vs:List Value} {x c:Int} (B:gV w (G1 h y)) (L:At h.get? y (.lst Vs)) (hi:IntsAre Vs [x,c]) (hc:0<=c/\c < 999000) (R:Room A 80) {Q:Value->Shared->Prop} {E:Value->Shared->Prop}
  (q:∀h' n' tk Vs',(∀b o,b≠y->h.get? b=some o->h'.get? b=some o)->At h'.get? y (.lst Vs')->IntsAre Vs' [kE 3 x c,kE 4 x c]->Q (.int (kE 5 x c) tk) ⟨h',gs,dr,n',os⟩) :
  wpAny (model pr w) A (call (.ref 864) [.ref y]) Q E ⟨h,gs,dr,n,os⟩:=by
 cases hi; rename_i t0 _ hi; cases hi; rename_i t1 _ hi; cases hi
 have C0:Co w (jJ [x,c]) ON (G1 h y) h [.lst [.int (.v 0),.int (.v 1)]] [] [y]:=Co.own1 B ⟨_,.cons ⟨t0,rfl⟩ (.cons ⟨t1,rfl⟩ .nil),L⟩
 refine MB (ρ':=ky 3 (jJ [x,c]) CB) (v:=.int (.v 5)) (r0:=40) (eD rfl rfl) (B4 w.params) R C0 (.cons ⟨y,rfl,rfl⟩ .nil) (zr DY (oB hc)) fun V h' as' n' C p dv=>?_
 ·obtain ⟨tk,rfl⟩:=dv
  obtain ⟨Vs',z1,z2⟩:=tQ C (p.get rfl)
  exact q h' n' tk Vs' C.keep1 z1 z2
set_option tactic.hygienic false
noncomputable def Mm:Hk:=fun a args ob=>((aZ args).bind AV.l?).bind fun i=>(lX ob i).bind fun x =>
 if a == 864 then some ([.le (.c 0) x.2,.lt x.2 (.c 999000)],.int (.fn 32 x.1 x.2 (.c 0)),ob.set i (.lst [.int (.fn 33 x.1 x.2 (.c 0)),.int (.fn 34 x.1 x.2 (.c 0))])) else none
end
section
variable {w:World} {ρ ρ':Rho} {O:Opq} {G:Gr} {A:Around} {gs:Array GenState} {dr:Drawn} {os:OsState} {h h':Heap} {n:Nat} {hk:Hk}
theorem B7 (h32:∀a c x,0<=c->c < 999000->ρ.f 32 a c x=kE 5 a c) (h33:∀a c x,0<=c->c < 999000->ρ.f 33 a c x=kE 3 a c) (h34:∀a c x,0<=c->c < 999000->ρ.f 34 a c x=kE 4 a c):ay w ρ O Mm 80:=by
 intro f args ob cs v ob' e hcs A gs dr os G h pc n as Us Q Er R S da q
 apply bc;intro ng
 obtain ⟨i,ei,e⟩:=az e
 obtain ⟨u,eu,ei⟩:=az ei
 obtain ⟨x,e2,e⟩:=az e
 obtain ⟨hc,e⟩:=cS e
 cases e
 rw [ba eu,bM ei] at da
 obtain ⟨b,hU,y,ey,hy⟩:=da.one
 obtain ⟨eo,Vs,v1,v2,ga⟩:=mD e2 S ey
 have k3:0<=x.2.den ρ:=hcs _ (.head _)
 have k4:x.2.den ρ < 999000:=hcs _ (.tail _ (.head _))
 rw [hU,hy,aD hc] at ng
 exact ng (tX (S.bsOn ga) v1 v2 ⟨k3,k4⟩ R fun h' n' tk Vs' kk L' I'=>q _ h' as n' (S.set1 (o':=.lst [.int (.fn 33 x.1 x.2 (.c 0)),.int (.fn 34 x.1 x.2 (.c 0))]) eo rfl ey kk ⟨_,dY I' (by exact aa CF (aa (h33 _ _ _ k3 k4) rfl)) (by exact aa CF (aa (h34 _ _ _ k3 k4) rfl)),L'⟩) .refl ⟨tk,by exact aa CF (aa (h32 _ _ _ k3 k4) rfl)⟩)
noncomputable def MA:Hk:=fun a args ob=>match fF a args ob with | some r=>some r | none=>Mm a args ob
noncomputable def Ij (P:Params) (hk:Hk) (n:Nat) (f:Addr) (args:List AV) (ob:List AO) (pc:List (CE×Bool)):Tr:=(run P hk n).C (.glb (.ref f)) args ⟨[],[],ob,pc⟩ fun v s=>.leaf (.rt v) ⟨[],[],s.ob,[]⟩
theorem NN {n0 r0:Nat} (H:ay w ρ O hk r0) {f:Addr} {args:List AV} {ob ob':List AO} {pc:List (CE×Bool)} {vc:VC} {m:List Nat} {v:AV} (e:(Ij w.params hk n0 f args ob pc).vc m (.rt v) ⟨[],[],ob',[]⟩=vc) {h:Heap} {n:Nat} {as:List Addr} {Us:List Value} {Q:Value->Shared->Prop} {E:Value->Shared->Prop} (R:Room A (n0 + r0))
  (S:Co w ρ O G h ob pc as) (da:All2 (Dn ρ as) args Us) (y:vc.den ρ ρ')
  (q:∀V h' as' n',Co w ρ' O G h' ob' [] (m.map fun j=>as'.getD j 0)->Pre as as'->Dn ρ' (m.map fun j=>as'.getD j 0) v V->Q V ⟨h',gs,dr,n',os⟩):wpAny (model pr w) A (call (.ref f) Us) Q E ⟨h,gs,dr,n,os⟩:=by
 rw [<- e] at y
 have y:=cU y
 unfold Ij at y
 refine (fM H n0).C (s:=⟨[],[],ob,pc⟩) R y S rfl da fun v V s' h' as' n' zw zw y C p d=>?_
 apply bc;intro ng
 obtain ⟨l0,l,y1,y2,y3,y4⟩:=y
 apply ng;clear ng
 exact q V h' _ n' (Co.re (s:=⟨[],[],s'.ob,[]⟩) (s':=⟨[],[],ob',[]⟩) C.pcs m y3 y4) p (bT (dF rfl) y1 y2 d)
end
noncomputable def pW:IE:=.fn 30 (.v 0) (.v 1) (.c 13)
noncomputable def F7:IE:=.fn 31 (.v 0) (.v 1) (.c 13)
noncomputable def Cz:IE:=.add (.v 1) (.c 1)
noncomputable def pF:IE:=.fn 30 (.fn 33 F7 Cz (.c 0)) (.fn 34 F7 Cz (.c 0)) (.c 2)
noncomputable def Mt:IE:=.fn 31 F7 Cz (.c 3)
noncomputable def L6:IE:=.add Cz (.c 1)
noncomputable def pG:IE:=.fn 30 (.fn 33 Mt L6 (.c 0)) (.fn 34 Mt L6 (.c 0)) (.c 3)
noncomputable def pH:IE:=.fn 30 F7 Cz (.c 2)
noncomputable def kJ:IE:=.fn 30 F7 Cz (.c 2)
noncomputable def LY:List (CE×Bool):=[(.lt pW (.c 2),false),(.eq pW (.c 12),false)]
noncomputable def hJ:List (CE×Bool):=LY++[(.lt pW (.c 6),false)]
noncomputable def qe (j:Nat):List (CE×Bool):=[[(.lt pW (.c 2),true)],
 [(.lt pW (.c 2),false),(.eq pW (.c 12),true)],
 LY++[(.lt pW (.c 6),true)],
 hJ++[(.eq pW (.c 6),true)],
 hJ++[(.eq pW (.c 6),false),(.eq pW (.c 7),true)],
 hJ++[(.eq pW (.c 6),false),(.eq pW (.c 7),true)],
 hJ++[(.eq pW (.c 6),false),(.eq pW (.c 7),false),(.eq pW (.c 8),true)],
 hJ++[(.eq pW (.c 6),false),(.eq pW (.c 7),false),(.eq pW (.c 8),true)],
 hJ++[(.eq pW (.c 6),false),(.eq pW (.c 7),false),(.eq pW (.c 8),false),(.eq pW (.c 9),true),(.eq pF (.c 1),false),(.eq pF (.c 0),true)],
 hJ++[(.eq pW (.c 6),false),(.eq pW (.c 7),false),(.eq pW (.c 8),false),(.eq pW (.c 9),true),(.eq pF (.c 1),true)],
 hJ++[(.eq pW (.c 6),false),(.eq pW (.c 7),false),(.eq pW (.c 8),false),(.eq pW (.c 9),false),(.eq pW (.c 10),true),(.eq pG (.c 2),false),(.eq pG (.c 1),false),(.eq pG (.c 0),true)],
 hJ++[(.eq pW (.c 6),false),(.eq pW (.c 7),false),(.eq pW (.c 8),false),(.eq pW (.c 9),false),(.eq pW (.c 10),true),(.eq pG (.c 2),false),(.eq pG (.c 1),true)],
 hJ++[(.eq pW (.c 6),false),(.eq pW (.c 7),false),(.eq pW (.c 8),false),(.eq pW (.c 9),false),(.eq pW (.c 10),true),(.eq pG (.c 2),true)],
 hJ++[(.eq pW (.c 6),false),(.eq pW (.c 7),false),(.eq pW (.c 8),false),(.eq pW (.c 9),false),(.eq pW (.c 10),false),(.eq pH (.c 0),true)],
 hJ++[(.eq pW (.c 6),false),(.eq pW (.c 7),false),(.eq pW (.c 8),false),(.eq pW (.c 9),false),(.eq pW (.c 10),false),(.eq pH (.c 0),false)]].getD j []
noncomputable def Bb:Nat->Nk
 | 0=>.chr | 1=>.chr | 2=>.skp | 3=>.krn | 4=>.box2 | 5=>.box3 | 6=>.box2 | 7=>.box3 | 8=>.rul | 9=>.rul4 | 10=>.dsc0 | 11=>.dsc1 | 12=>.dsc2 | 13=>.pen | _=>.mth
noncomputable def xM (k:Nk):List AO:=bj++[.lst [.int (.v 8),.int (.v 9)]]++k.T 4 10
noncomputable def NI (P:Params) (j:Nat):Tr:=Ij P MA 40 871 [.loc 3,.loc 1,.int (.v 2)] (bj++[.lst [.int (.v 0),.int (.v 1)]]) (qe j)
noncomputable def Fh:Nat->List Nat
 | 0=>[0,1,2,3,4,5]
 | 1=>[0,1,2,3,4,5]
 | 2=>[0,1,2,3,4,5,6,7]
 | 3=>[0,1,2,3,4,5]
 | 4=>[0,1,2,3,7,4,5,6]
 | 5=>[0,1,2,3,7,4,5,6]
 | 6=>[0,1,2,3,7,4,5,6]
 | 7=>[0,1,2,3,7,4,5,6]
 | 8=>[0,1,2,3,5,6]
 | 9=>[0,1,2,3,5,6]
 | 10=>[0,1,2,3,4,5,8,9,10,11,6,7,13,14,15]
 | 11=>[0,1,2,3,4,5,8,9,10,11,6,7,13,14,15]
 | 12=>[0,1,2,3,4,5,8,9,10,11,6,7,13,14,15]
 | 13=>[0,1,2,3,4,5]
 | _=>[0,1,2,3,4,5]
noncomputable def mw (P:Params) (j:Nat):VC:=(NI P j).vc (Fh j) (.rt (.loc (4 + (Bb j).last))) ⟨[],[],xM (Bb j),[]⟩
noncomputable def mM:CE:=.le (.c 0) (.v 1)
noncomputable def mR:CE:=.lt (.v 1) (.c 1000000)
noncomputable def ms:IE:=.add (.v 1) (.c 1)
noncomputable def nN:CE:=.le (.c 0) ms
noncomputable def tu:CE:=.lt ms (.c 1000000)
noncomputable def wX:IE:=.fn 31 (.v 0) (.v 1) (.c 13)
noncomputable def mN:IE:=.add (.c 97) (.fn 30 wX ms (.c 3))
noncomputable def ja:Ob1:=.ie (.c 1) (.c 1)
noncomputable def mW:IE:=.fn 31 wX ms (.c 3)
noncomputable def de:IE:=.add ms (.c 1)
noncomputable def fC:IE:=.fn 34 wX ms (.c 0)
noncomputable def my:IE:=.fn 33 wX ms (.c 0)
noncomputable def jf:IE:=.fn 34 my fC (.c 0)
noncomputable def xn:IE:=.fn 31 (.fn 33 my fC (.c 0)) jf (.v 2)
noncomputable def rI:IE:=.fn 34 xn (.add jf (.c 1)) (.c 0)
noncomputable def ve:IE:=.fn 30 (.fn 33 my fC (.c 0)) jf (.v 2)
noncomputable def wE:IE:=.fn 30 (.fn 33 xn (.add jf (.c 1)) (.c 0)) rI (.v 2)
noncomputable def fq:IE:=.c (-1073741823)
noncomputable def u8:CE:=.le fq (.fn 32 wX ms (.c 0))
noncomputable def wC:CE:=.le (.fn 32 wX ms (.c 0)) (.c 1073741823)
noncomputable def mT:IE:=.fn 32 my fC (.c 0)
noncomputable def je:IE:=.fn 32 xn (.add jf (.c 1)) (.c 0)
noncomputable def xF:Ob1:=.ie (.fn 31 (.fn 33 xn (.add jf (.c 1)) (.c 0)) rI (.v 2)) (.v 8)
noncomputable def vI:Ob1:=.ie (.add rI (.c 1)) (.v 9)
noncomputable def m7:Ob1:=.ie (.fn 32 wX ms (.c 0)) (.v 10)
noncomputable def dM:Ob1:=.ie (.c 0) (.c 0)
noncomputable def kC:IE:=.fn 31 wX ms (.c 2)
noncomputable def cz:IE:=.fn 34 kC de (.c 0)
noncomputable def eI:IE:=.fn 33 kC de (.c 0)
noncomputable def iW:IE:=.fn 34 eI cz (.c 0)
noncomputable def hC:IE:=.add (.c 2) (.fn 30 wX ms (.c 2))
noncomputable def rk:CE:=.le fq (.fn 32 kC de (.c 0))
noncomputable def rJ:CE:=.le (.fn 32 kC de (.c 0)) (.c 1073741823)
noncomputable def gY:IE:=.fn 32 (.fn 33 eI cz (.c 0)) iW (.c 0)
noncomputable def dh:IE:=.fn 34 (.fn 33 eI cz (.c 0)) iW (.c 0)
noncomputable def hK:IE:=.fn 33 (.fn 33 eI cz (.c 0)) iW (.c 0)
noncomputable def sL:Ob1:=.ie (.fn 32 kC de (.c 0)) (.v 10)
noncomputable def g9:IE:=.fn 34 mW de (.c 0)
noncomputable def qf:VC:=.req mM (.req mR (.req nN (.req tu (.br (.le (.c 0) mN) (.br (.le mN (.c 255)) (.ok [ja,.ie mW (.v 8),.ie de (.v 9),.ie mN (.v 10)]) .fail) .fail))))
theorem xt (P:Params):mw P 0=qf:=by kernel_rfl
noncomputable def pV:VC:=.req mM (.req mR (.req nN (.req tu (.br (.le (.c 0) mN) (.br (.le mN (.c 255)) (.ok [ja,.ie mW (.v 8),.ie de (.v 9),.ie mN (.v 10)]) .fail) .fail))))
theorem vZ (P:Params):mw P 1=pV:=by kernel_rfl
noncomputable def mX:VC:=.req mM (.req mR (.req nN (.req (.lt ms (.c 999000)) (.req (.le (.c 0) fC) (.req (.lt fC (.c 999000)) (.req (.lt (.c 0) (.v 2)) (.req (.lt (.v 2) (.c 1000000)) (.req (.le (.c 0) jf) (.req (.lt jf (.c 1000000)) (.req (.le (.c 0) (.add jf (.c 1))) (.req (.lt (.add jf (.c 1)) (.c 999000)) (.req (.lt (.c 0) (.v 2)) (.req (.lt (.v 2) (.c 1000000)) (.req (.le (.c 0) rI) (.req (.lt rI (.c 1000000)) (.br (.le (.c 0) ve) (.br (.le ve (.c 3)) (.br (.le (.c 0) wE) (.br (.le wE (.c 3)) (.br u8 (.br wC (.br (.le fq mT) (.br (.le mT (.c 1073741823)) (.br (.eq mT (.c 0)) (.br (.le fq je) (.br (.le je (.c 1073741823)) (.br (.eq je (.c 0)) (.ok [ja,xF,vI,.ie (.c 0) (.v 14),.ie je (.v 13),.ie (.c 0) (.v 12),.ie mT (.v 11),m7,dM]) (.ok [ja,xF,vI,.ie wE (.v 14),.ie je (.v 13),.ie (.c 0) (.v 12),.ie mT (.v 11),m7,dM])) .fail) .fail) (.br (.le fq je) (.br (.le je (.c 1073741823)) (.br (.eq je (.c 0)) (.ok [ja,xF,vI,.ie (.c 0) (.v 14),.ie je (.v 13),.ie ve (.v 12),.ie mT (.v 11),m7,dM]) (.ok [ja,xF,vI,.ie wE (.v 14),.ie je (.v 13),.ie ve (.v 12),.ie mT (.v 11),m7,dM])) .fail) .fail)) .fail) .fail) .fail) .fail) .fail) .fail) .fail) .fail))))))))))))))))
theorem yb (P:Params):mw P 2=mX:=by kernel_rfl
noncomputable def uh:VC:=.req mM (.req mR (.req nN (.req (.lt ms (.c 999000)) (.br u8 (.br wC (.ok [ja,.ie my (.v 8),.ie fC (.v 9),.ie (.c 1) (.v 11),m7]) .fail) .fail))))
theorem w8 (P:Params):mw P 3=uh:=by kernel_rfl
noncomputable def u4:VC:=.req mM (.req mR (.req nN (.req tu (.req (.le (.c 0) de) (.req (.lt de (.c 999000)) (.req (.le (.c 0) cz) (.req (.lt cz (.c 999000)) (.req (.le (.c 0) iW) (.req (.lt iW (.c 999000)) (.br (.le (.c 2) hC) (.br (.le hC (.c 3)) (.br rk (.br rJ (.br (.le fq (.fn 32 eI cz (.c 0))) (.br (.le (.fn 32 eI cz (.c 0)) (.c 1073741823)) (.br (.le fq gY) (.br (.le gY (.c 1073741823)) (.req (.le (.c 0) dh) (.req (.lt dh (.c 999000)) (.ok [ja,.ie (.fn 33 hK dh (.c 0)) (.v 8),.ie (.fn 34 hK dh (.c 0)) (.v 9),dM,ja,dM,dM,.ie (.fn 32 hK dh (.c 0)) (.v 13),.ie gY (.v 12),.ie (.fn 32 eI cz (.c 0)) (.v 11),sL,.ie hC (.c 2)]))) .fail) .fail) .fail) .fail) .fail) .fail) .fail) .fail))))))))))
theorem vG (P:Params):mw P 4=u4:=by kernel_rfl
noncomputable def vx:VC:=.req mM (.req mR (.req nN (.req tu (.req (.le (.c 0) de) (.req (.lt de (.c 999000)) (.req (.le (.c 0) cz) (.req (.lt cz (.c 999000)) (.req (.le (.c 0) iW) (.req (.lt iW (.c 999000)) (.br (.le (.c 2) hC) (.br (.le hC (.c 3)) (.br rk (.br rJ (.br (.le fq (.fn 32 eI cz (.c 0))) (.br (.le (.fn 32 eI cz (.c 0)) (.c 1073741823)) (.br (.le fq gY) (.br (.le gY (.c 1073741823)) (.req (.le (.c 0) dh) (.req (.lt dh (.c 999000)) (.ok [ja,.ie (.fn 33 hK dh (.c 0)) (.v 8),.ie (.fn 34 hK dh (.c 0)) (.v 9),dM,ja,dM,dM,.ie (.fn 32 hK dh (.c 0)) (.v 13),.ie gY (.v 12),.ie (.fn 32 eI cz (.c 0)) (.v 11),sL,.ie hC (.c 3)]))) .fail) .fail) .fail) .fail) .fail) .fail) .fail) .fail))))))))))
theorem vy (P:Params):mw P 5=vx:=by kernel_rfl
noncomputable def ya:VC:=.req mM (.req mR (.req nN (.req tu (.req (.le (.c 0) de) (.req (.lt de (.c 999000)) (.req (.le (.c 0) cz) (.req (.lt cz (.c 999000)) (.req (.le (.c 0) iW) (.req (.lt iW (.c 999000)) (.br (.le (.c 2) hC) (.br (.le hC (.c 3)) (.br rk (.br rJ (.br (.le fq (.fn 32 eI cz (.c 0))) (.br (.le (.fn 32 eI cz (.c 0)) (.c 1073741823)) (.br (.le fq gY) (.br (.le gY (.c 1073741823)) (.req (.le (.c 0) dh) (.req (.lt dh (.c 999000)) (.ok [ja,.ie (.fn 33 hK dh (.c 0)) (.v 8),.ie (.fn 34 hK dh (.c 0)) (.v 9),dM,ja,dM,dM,.ie (.fn 32 hK dh (.c 0)) (.v 13),.ie gY (.v 12),.ie (.fn 32 eI cz (.c 0)) (.v 11),sL,.ie hC (.c 2)]))) .fail) .fail) .fail) .fail) .fail) .fail) .fail) .fail))))))))))
theorem w5 (P:Params):mw P 6=ya:=by kernel_rfl
noncomputable def vV:VC:=.req mM (.req mR (.req nN (.req tu (.req (.le (.c 0) de) (.req (.lt de (.c 999000)) (.req (.le (.c 0) cz) (.req (.lt cz (.c 999000)) (.req (.le (.c 0) iW) (.req (.lt iW (.c 999000)) (.br (.le (.c 2) hC) (.br (.le hC (.c 3)) (.br rk (.br rJ (.br (.le fq (.fn 32 eI cz (.c 0))) (.br (.le (.fn 32 eI cz (.c 0)) (.c 1073741823)) (.br (.le fq gY) (.br (.le gY (.c 1073741823)) (.req (.le (.c 0) dh) (.req (.lt dh (.c 999000)) (.ok [ja,.ie (.fn 33 hK dh (.c 0)) (.v 8),.ie (.fn 34 hK dh (.c 0)) (.v 9),dM,ja,dM,dM,.ie (.fn 32 hK dh (.c 0)) (.v 13),.ie gY (.v 12),.ie (.fn 32 eI cz (.c 0)) (.v 11),sL,.ie hC (.c 3)]))) .fail) .fail) .fail) .fail) .fail) .fail) .fail) .fail))))))))))
theorem uW (P:Params):mw P 7=vV:=by kernel_rfl
noncomputable def sO:VC:=.req mM (.req mR (.req nN (.req (.lt ms (.c 999000)) (.req (.le (.c 0) fC) (.req (.lt fC (.c 1000000)) (.br u8 (.br wC (.ok [ja,.ie (.fn 31 my fC (.c 2)) (.v 8),.ie (.add fC (.c 1)) (.v 9),m7]) .fail) .fail))))))
theorem xu (P:Params):mw P 8=sO:=by kernel_rfl
noncomputable def tK:VC:=.req mM (.req mR (.req nN (.req (.lt ms (.c 999000)) (.req (.le (.c 0) fC) (.req (.lt fC (.c 1000000)) (.br u8 (.br wC (.ok [ja,.ie (.fn 31 my fC (.c 2)) (.v 8),.ie (.add fC (.c 1)) (.v 9),.ie (.c 4) (.c 4),m7]) .fail) .fail))))))
theorem wN (P:Params):mw P 9=tK:=by kernel_rfl
noncomputable def lK:VC:=.req mM (.req mR (.req nN (.req tu (.br (.le (.c 0) mN) (.br (.le mN (.c 255)) (.req (.le (.c 0) de) (.req (.lt de (.c 999000)) (.br (.le fq (.fn 32 mW de (.c 0))) (.br (.le (.fn 32 mW de (.c 0)) (.c 1073741823)) (.req (.le (.c 0) g9) (.req (.lt g9 (.c 1000000)) (.ok [ja,.ie (.fn 31 (.fn 33 mW de (.c 0)) g9 (.c 3)) (.v 8),.ie (.add g9 (.c 1)) (.v 9),.ie (.c 97) (.c 97),.ie mN (.v 10),dM,.ie (.fn 32 mW de (.c 0)) (.v 11)]))) .fail) .fail))) .fail) .fail))))
theorem ru (P:Params):mw P 10=lK:=by kernel_rfl
noncomputable def jx:VC:=.req mM (.req mR (.req nN (.req tu (.br (.le (.c 0) mN) (.br (.le mN (.c 255)) (.req (.le (.c 0) de) (.req (.lt de (.c 999000)) (.br (.le fq (.fn 32 mW de (.c 0))) (.br (.le (.fn 32 mW de (.c 0)) (.c 1073741823)) (.req (.le (.c 0) g9) (.req (.lt g9 (.c 1000000)) (.ok [ja,.ie (.fn 31 (.fn 33 mW de (.c 0)) g9 (.c 3)) (.v 8),.ie (.add g9 (.c 1)) (.v 9),.ie (.c 97) (.c 97),.ie mN (.v 10),dM,.ie (.fn 32 mW de (.c 0)) (.v 11)]))) .fail) .fail))) .fail) .fail))))
theorem r8 (P:Params):mw P 11=jx:=by kernel_rfl
noncomputable def jm:VC:=.req mM (.req mR (.req nN (.req tu (.br (.le (.c 0) mN) (.br (.le mN (.c 255)) (.req (.le (.c 0) de) (.req (.lt de (.c 999000)) (.br (.le fq (.fn 32 mW de (.c 0))) (.br (.le (.fn 32 mW de (.c 0)) (.c 1073741823)) (.req (.le (.c 0) g9) (.req (.lt g9 (.c 1000000)) (.ok [ja,.ie (.fn 31 (.fn 33 mW de (.c 0)) g9 (.c 3)) (.v 8),.ie (.add g9 (.c 1)) (.v 9),.ie (.c 97) (.c 97),.ie mN (.v 10),dM,.ie (.fn 32 mW de (.c 0)) (.v 11)]))) .fail) .fail))) .fail) .fail))))
theorem rp (P:Params):mw P 12=jm:=by kernel_rfl
noncomputable def mo:VC:=.req mM (.req mR (.req nN (.req tu (.req (.le (.c 0) de) (.req (.lt de (.c 1000000)) (.br (.le (.c (-2147483647)) (.fn 30 kC de (.c 99))) (.br (.le (.fn 30 kC de (.c 99)) (.c 2147483647)) (.ok [ja,.ie (.fn 31 kC de (.c 99)) (.v 8),.ie (.add de (.c 1)) (.v 9),.ie (.fn 30 kC de (.c 99)) (.v 10)]) .fail) .fail))))))
theorem rD (P:Params):mw P 13=mo:=by kernel_rfl
noncomputable def ml:VC:=.req mM (.req mR (.req nN (.req tu (.req (.le (.c 0) de) (.req (.lt de (.c 999000)) (.br rk (.br rJ (.ok [ja,.ie eI (.v 8),.ie cz (.v 9),sL]) .fail) .fail))))))
theorem r9 (P:Params):mw P 14=ml:=by kernel_rfl
noncomputable def A8 (m:IE):Option (Int×Int):=match m.c? with
 | some m=>(match decide (0 < m) with | true=>some (0,m - 1) | false=>none)
 | none=>m.v?.bind fun i=>match Nat.beq i 2 with | true=>some (0,3) | false=>none
noncomputable def Ch (k:Nat) (x:Option (Int×Int)) (m:IE):Option (Int×Int):=match Nat.beq k 30 with
 | true=>A8 m
 | false=>(match Nat.beq k 32 with | true=>some (-8,3866630) | false=>(match Nat.beq k 34 with | true=>x.map fun p=>(p.1,p.2 + 3) | false=>none))
noncomputable def pO:IE->Option (Int×Int)
 | .c n=>some (n,n)
 | .v i=>(match Nat.beq i 1 with | true=>some (0,980000) | false=>(match Nat.beq i 2 with | true=>some (1,4) | false=>none))
 | .fn k _ x m=>Ch k (pO x) m
 | .add a b=>(pO a).bind fun p=>(pO b).map fun q=>(p.1 + q.1,p.2 + q.2)
 | .neg a=>(pO a).map fun p=>(-p.2,-p.1)
 | _=>none
noncomputable def grow:IE->Option Nat
 | .v i=>(match Nat.beq i 1 with | true=>some 0 | false=>none)
 | .add x y=>y.c?.bind fun n=>(match decide (n=1) with | true=>(grow x).map (· + 1) | false=>none)
 | .fn k _ x _=>(match Nat.beq k 34 with | true=>(grow x).map (· + 3) | false=>none)
 | _=>none
structure Dr (ρ:Rho):Prop where
 c:0<=ρ.v 1/\ρ.v 1<=980000
 o:1<=ρ.v 2/\ρ.v 2<=4
 t:∀a c m,0 < m->0<=ρ.f 30 a c m/\ρ.f 30 a c m < m
 z:∀a c x,-8<=ρ.f 32 a c x/\ρ.f 32 a c x<=3866630
 g:∀a c x,c<=ρ.f 34 a c x/\ρ.f 34 a c x<=c + 3
theorem pS {α:Type} {b:Bool} {x:α} {y:Option α} {z:α} (e:(match b with | true=>some x | false=>y)=some z):(b=true/\x=z)\/y=some z:=by
 induction b with | true=>exact .inl ⟨rfl,aG e⟩ | false=>exact .inr e
theorem lh {a b:Nat} (e:Nat.beq a b=true):a=b:=Nat.eq_of_beq_eq_true e
theorem vQ {ρ:Rho} (D:Dr ρ) {m:IE} {p:Int×Int} (h:A8 m=some p) (a c:Int):p.1<=ρ.f 30 a c (m.den ρ)/\ρ.f 30 a c (m.den ρ)<=p.2:=by
 unfold A8 at h
 induction q:m.c? with
 | some n =>
  rw [q] at h
  refine aa (bO q) ?_
  rcases pS (b:=decide (0 < n)) (y:=none) h with ⟨h1,h2⟩ | h
  ·have:=D.t a c n (of_decide_eq_true h1)
   refine aa (Eq.symm h2) ?_
   exact ⟨this.1,Int.le_sub_one_of_lt this.2⟩
  ·exact ap h
 | none =>
  rw [q] at h
  obtain ⟨i,e1,h⟩:=az h
  rcases pS (b:=Nat.beq i 2) (y:=none) h with ⟨h1,h2⟩ | h
  ·refine aa (dS e1) (aa (lh h1) (aa (Eq.symm h2) ?_))
   have o:=D.o
   have:=D.t a c (ρ.v 2) (by (first | lia | omega))
   exact ⟨this.1,Int.le_of_lt_add_one (Int.lt_of_lt_of_le this.2 o.2)⟩
  ·exact ap h
theorem cZ {ρ:Rho} (D:Dr ρ) {e:IE}:∀{p:Int×Int},pO e=some p->p.1<=e.den ρ/\e.den ρ<=p.2:=by
 induction e with
 | c n=>exact fun h=>aG h▸⟨Int.le_refl _,Int.le_refl _⟩
 | v i =>
  intro p h
  have h:(match Nat.beq i 1 with | true=>some ((0,980000):Int×Int) | false=>(match Nat.beq i 2 with | true=>some (1,4) | false=>none))=some p:=h
  rcases pS h with ⟨h1,h2⟩ | h
  ·refine aa (lh h1) (aa (Eq.symm h2) ?_); exact D.c
  ·rcases pS (b:=Nat.beq i 2) (y:=none) h with ⟨h1,h2⟩ | h
   ·refine aa (lh h1) (aa (Eq.symm h2) ?_); exact D.o
   ·exact ap h
 | fn k a b c ia ib ic =>
  intro p h
  have h:Ch k (pO b) c=some p:=h
  unfold Ch at h
  induction q:Nat.beq k 30 with
  | true=>rw [q] at h; refine aa (lh q) ?_; exact vQ D h _ _
  | false =>
   rw [q] at h
   rcases pS (b:=Nat.beq k 32) (y:=match Nat.beq k 34 with | true=>(pO b).map fun p=>(p.1,p.2 + 3) | false=>none) h with ⟨h1,h2⟩ | h
   ·refine aa (lh h1) (aa (Eq.symm h2) ?_); exact D.z _ _ _
   ·induction q3:Nat.beq k 34 with
    | true =>
     rw [q3] at h
     obtain ⟨z,hz,h⟩:=gR h
     refine aa (lh q3) (aa (Eq.symm h) ?_)
     have:=ib hz
     have g:=D.g (a.den ρ) (b.den ρ) (c.den ρ)
     exact ⟨Int.le_trans this.1 g.1,Int.le_trans g.2 (Int.add_le_add_right this.2 3)⟩
    | false=>rw [q3] at h; exact ap h
 | add a b ia ib =>
  intro p h
  obtain ⟨q,hq,h⟩:=az h
  obtain ⟨q',hq',h⟩:=gR h
  refine aa (Eq.symm h) ?_
  exact ⟨Int.add_le_add (ia hq).1 (ib hq').1,Int.add_le_add (ia hq).2 (ib hq').2⟩
 | neg a ia =>
  intro p h
  obtain ⟨q,hq,h⟩:=gR h
  refine aa (Eq.symm h) ?_
  exact ⟨Int.neg_le_neg (ia hq).2,Int.neg_le_neg (ia hq).1⟩
 | _=>intro p h; exact ap h
theorem wV {ρ:Rho} (D:Dr ρ) {e:IE}:∀{n:Nat},grow e=some n->ρ.v 1<=e.den ρ/\e.den ρ<=ρ.v 1 + n:=by
 induction e with
 | v i =>
  intro n h
  rcases pS (b:=Nat.beq i 1) (y:=none) h with ⟨h1,h2⟩ | h
  ·refine aa (lh h1) (aa (Eq.symm h2) ?_); exact ⟨Int.le_refl _,by show ρ.v 1<=ρ.v 1 + (0:Nat); (first | lia | omega)⟩
  ·exact ap h
 | add a b ia ib =>
  intro n h
  obtain ⟨m,em,h⟩:=az h
  have h:(match decide (m=1) with | true=>(grow a).map (· + 1) | false=>none)=some n:=h
  induction q:decide (m=1) with
  | true =>
   rw [q] at h
   obtain ⟨k,hk,h⟩:=gR h
   have:=ia hk
   refine aa (bO em) (aa (of_decide_eq_true q) (aa (Eq.symm h) ?_))
   show _<=a.den ρ + 1/\a.den ρ + 1<=_
   (first | lia | omega)
  | false=>rw [q] at h; exact ap h
 | fn k a b c ia ib ic =>
  intro n h
  have h:(match Nat.beq k 34 with | true=>(grow b).map (· + 3) | false=>none)=some n:=h
  induction q:Nat.beq k 34 with
  | true =>
   rw [q] at h
   obtain ⟨z,hz,h⟩:=gR h
   have:=ib hz
   have g:=D.g (a.den ρ) (b.den ρ) (c.den ρ)
   refine aa (lh q) (aa (Eq.symm h) ?_)
   show _<=ρ.f 34 _ _ _/\ρ.f 34 _ _ _<=_
   (first | lia | omega)
  | false=>rw [q] at h; exact ap h
 | _=>intro n h; exact ap h
noncomputable def cT:CE->Bool
 | .le a b=>(aq (pO a) (pO b)).any fun p=>decide (p.1.2<=p.2.1)
 | .lt a b=>(aq (pO a) (pO b)).any fun p=>decide (p.1.2 < p.2.1)
 | _=>false
theorem te {ρ:Rho} (D:Dr ρ) {c:CE} (h:cT c=true):c.den ρ:=by
 induction c using CE.casesOn <;> try exact bG h
 ·obtain ⟨p,e,h⟩:=cv h
  exact Int.lt_of_le_of_lt (cZ D (ah e).1).2 (Int.lt_of_lt_of_le (of_decide_eq_true h) (cZ D (ah e).2).1)
 ·obtain ⟨p,e,h⟩:=cv h
  exact Int.le_trans (cZ D (ah e).1).2 (Int.le_trans (of_decide_eq_true h) (cZ D (ah e).2).1)
noncomputable def zb (l:List Ob1):Bool :=
 ((bv 9 l).any fun e=>(grow e).any fun n=>Nat.ble n 20) &&
 [10,11,12,13,14].all fun k=>match bv k l with | some e=>(pO e).any fun p=>decide (-8<=p.1) && decide (p.2<=3866630) | none=>true
noncomputable def VC.sB:VC->Bool
 | .ok l=>zb l
 | .br c a b=>(match cT c with | true=>a.sB | false=>a.sB && b.sB)
 | .req c t=>cT c && t.sB
 | .fail=>false
structure InB (ρ:Rho) (f:Nat->Int):Prop where
 c:ρ.v 1<=f 9/\f 9<=ρ.v 1 + 20
 n:∀k,k=10\/k=11\/k=12\/k=13\/k=14->-8<=f k/\f k<=3866630
theorem sY {ρ:Rho} (D:Dr ρ) {l:List Ob1} (h:zb l=true):InB ρ fun k=>match bv k l with | some e=>e.den ρ | none=>0:=by
 refine ⟨?_,fun k hk=>?_⟩
 ·obtain ⟨e,he,h⟩:=cv (ag h)
  apply bc;intro ng
  obtain ⟨n,hn,h⟩:=cv h
  apply ng;clear ng
  have:=wV D hn
  have hb:=Nat.le_of_ble_eq_true h
  refine aa he ?_
  show _<=e.den ρ/\e.den ρ<=_
  (first | lia | omega)
 ·have h2:=List.all_eq_true.mp (au h) k (by simp; exact hk)
  induction q:bv k l with
  | some e =>
   rw [q] at h2
   apply bc;intro ng
   obtain ⟨p,hp,h⟩:=cv h2
   apply ng;clear ng
   have:=cZ D hp
   exact ⟨Int.le_trans (of_decide_eq_true (ag h)) this.1,Int.le_trans this.2 (of_decide_eq_true (au h))⟩
  | none=>exact ⟨(by decide:(-8:Int)<=0),(by decide:(0:Int)<=3866630)⟩
theorem tP {ρ:Rho} (D:Dr ρ) {vc:VC} (h:vc.sB=true):vc.safe ρ/\InB ρ fun k=>vc.ev ρ k:=by
 induction vc with
 | ok l=>exact ⟨trivial,sY D h⟩
 | br c a b ia ib =>
  have h:(match cT c with | true=>a.sB | false=>a.sB && b.sB)=true:=h
  have et:c.den ρ->(fun k=>VC.ev ρ k (.br c a b))=fun k=>a.ev ρ k:=fun hc=>funext fun k=>mI hc
  have ef:¬c.den ρ->(fun k=>VC.ev ρ k (.br c a b))=fun k=>b.ev ρ k:=fun hc=>funext fun k=>sy hc
  induction q:cT c with
  | true =>
   rw [q] at h
   have hc:=te D q
   refine aa (et hc) ?_
   exact ⟨⟨fun zw=>(ia h).1,fun n=>absurd hc n⟩,(ia h).2⟩
  | false =>
   rw [q] at h
   refine ⟨⟨fun zw=>(ia (ag h)).1,fun zw=>(ib (au h)).1⟩,?_⟩
   rcases Classical.em (c.den ρ) with hc | hc
   ·refine aa (et hc) ?_; exact (ia (ag h)).2
   ·refine aa (ef hc) ?_; exact (ib (au h)).2
 | req c t ih=>exact ⟨⟨te D (ag h),(ih (au h)).1⟩,(ih (au h)).2⟩
 | fail=>exact bG h
theorem d8 : [qf,pV,mX,uh,sO,tK,lK,jx,jm,mo,ml].all VC.sB=true:=by kernel_rfl
theorem El : [qf,pV,mX,uh,sO,tK,lK,jx,jm,mo,ml].all (VC.wf 3)=true:=by kernel_rfl
theorem km:u4.sB=true/\vx.sB=true/\ya.sB=true/\vV.sB=true:=⟨by kernel_rfl,by kernel_rfl,by kernel_rfl,by kernel_rfl⟩
noncomputable def BG (e0:IE) (n0:Int) (b:Nat) (r:List Ob1) (a e:IE):Bool:=match e.v? with
 | some k=>Nat.ble b k && GR k r
 | none=>e.c?.any fun n=>(match a.c? with | some m=>decide (m=n) | none=>a.same e0 && decide (n=n0))
noncomputable def VC.wfE (e0:IE) (n0:Int) (b:Nat) (t:VC):Bool:=t.allL (jh (BG e0 n0 b))
theorem vA {b:Nat} {ρ ρ':Rho} {e0:IE} {n0:Int} (h0:e0.den ρ=n0) (r:List Ob1) (a e:IE) (w:BG e0 n0 b r a e=true):AL b ρ ρ' r a e:=by
 unfold BG at w
 induction q:e.v? with
 | some k =>
  rw [q] at w
  exact ⟨fun k' ek zw=>aG (q.symm.trans ek)▸tI (au w),fun z=>by refine aa (dS q) ?_; exact (z k q (Nat.le_of_ble_eq_true (ag w))).symm⟩
 | none =>
  rw [q] at w
  apply bc;intro ng
  obtain ⟨n,e1,w⟩:=cv w
  apply ng;clear ng
  refine ⟨fun k' ek zw=>ap (q.symm.trans ek),fun zw=>?_⟩
  refine aa (bO e1) ?_
  induction q2:a.c? with
  | some m=>rw [q2] at w; refine aa (bO q2) ?_; exact of_decide_eq_true w
  | none=>rw [q2] at w; refine aa (IE.same_ok (ag w)) ?_; exact h0.trans (of_decide_eq_true (au w)).symm
theorem VC.fillE {b:Nat} {ρ ρ':Rho} {e0:IE} {n0:Int} (h0:e0.den ρ=n0) {vc:VC} (w:vc.wfE e0 n0 b=true) (s:vc.safe ρ) (q:∀k,b<=k->ρ'.v k=vc.ev ρ k):vc.den ρ ρ':=VC.fillG (fun zw=>nW (vA h0)) w s q
theorem ki:u4.wfE (.add (.c 2) kJ) 2 3=true/\vx.wfE (.add (.c 2) kJ) 3 3=true/\ya.wfE (.add (.c 2) kJ) 2 3=true/\vV.wfE (.add (.c 2) kJ) 3 3=true:=⟨by kernel_rfl,by kernel_rfl,by kernel_rfl,by kernel_rfl⟩
noncomputable def hM:Nat->VC
 | 0=>qf | 1=>pV | 2=>mX | 3=>uh | 4=>u4 | 5=>vx | 6=>ya | 7=>vV | 8=>sO | 9=>tK | 10=>lK | 11=>jx | 12=>jm | 13=>mo | _=>ml
theorem AU (P:Params):∀j,j < 15->mw P j=hM j
 | 0,_=>xt P | 1,_=>vZ P | 2,_=>yb P | 3,_=>w8 P | 4,_=>vG P | 5,_=>vy P | 6,_=>w5 P | 7,_=>uW P | 8,_=>xu P | 9,_=>wN P | 10,_=>ru P | 11,_=>r8 P | 12,_=>rp P | 13,_=>rD P | 14,_=>r9 P
 | n + 15,h=>absurd h (by (first | lia | omega))
noncomputable def M2 (k:Nat) (a b c:Int):Int:=match k with
 | 30=>bt a b c | 31=>bY a b c | 32=>if 0<=b/\b < 999000 then kE 5 a b else 0 | 33=>kE 3 a b | 34=>if 0<=b/\b < 999000 then kE 4 a b else b | _=>ff k a b c
noncomputable def bz (l:List Int):Rho:=⟨fun i=>l.getD i 0,M2,fun zw=>[]⟩
theorem ig {a c o:Int} (hc:0<=c/\c<=980000) (ho:1<=o/\o<=4):Dr (bz [a,c,o]):=by
 refine ⟨hc,ho,fun a c m hm=>bC hm,fun a c x=>?_,fun a c x=>?_⟩
 ·show -8<=(if 0<=c/\c < 999000 then kE 5 a c else 0)/\(if 0<=c/\c < 999000 then kE 5 a c else 0)<=3866630
  split
  ·rename_i h; have:=zh (a:=a) h; (first | decide | lia | omega)
  ·(first | decide | lia | omega)
 ·show c<=(if 0<=c/\c < 999000 then kE 4 a c else c)/\(if 0<=c/\c < 999000 then kE 4 a c else c)<=c + 3
  split
  ·rename_i h; have:=zh (a:=a) h; (first | decide | lia | omega)
  ·(first | decide | lia | omega)
theorem BY {w:World} {O:Opq} {l:List Int}:ay w (bz l) O MA 80:=ay.or (ay.le (d:=40) (eD (ρ:=bz l) rfl rfl) (by (first | decide | lia | omega)))
 (B7 (ρ:=bz l) (fun a c x h1 h2=>if_pos ⟨h1,h2⟩) (fun zw zw zw zw zw=>rfl) fun a c x h1 h2=>if_pos ⟨h1,h2⟩)
noncomputable def Mz (i:Nat):Option Nat:=if i < 3 then some i else if i=3 then none else some (i - 1)
theorem Cd (k:Nk):((nT (fG Mz) (k.T 4 10) (k.T 3 0)).map (jh (B2 fun i j=>i == 10 + j && Nat.ble j 4)))=some true:=by induction k using Nk.casesOn <;> kernel_rfl
theorem F4 (k:Nk):(k.T 4 10).all AO.plainA=true:=by induction k using Nk.casesOn <;> kernel_rfl
theorem Ba (k:Nk):k.last < (k.T 4 10).length:=by induction k using Nk.casesOn <;> decide +kernel
def Nd.bd (nd:Nd):Prop:=∀i,-8<=nd.i i/\nd.i i<=3866630
noncomputable def yi (j:Nat) (l:List Int):Nd:=⟨Bb j,[(hM j).ev (bz l) 10,(hM j).ev (bz l) 11,(hM j).ev (bz l) 12,(hM j).ev (bz l) 13,(hM j).ev (bz l) 14]⟩
section
variable {w:World} {A:Around} {gs:Array GenState} {dr:Drawn} {os:OsState} {h:Heap} {n:Nat} {g:Gr} {F:List Addr} {y:Addr} {Vs:List Value} {a c o:Int} {t:Tok}
noncomputable def Gn (h h':Heap):Gr:=fun b=>match h.get? b with | some _=>none | none=>h'.get? b
theorem tF {h':Heap} {ρ:Rho} {k:Nk} {xs:List Addr} {nd:Nd} (hF:F.length=3) (hk:nd.k=k) (hv:∀j,j<=4->ρ.v (10 + j)=nd.a.getD j 0) (C:Co w ρ (OG w g) (G1 h y) h' (xM k) [] xs) (h4:xs.take 4=F++[y]) :
  ∃x,xs[4 + k.last]? = some x/\bP (Gn h h') F x nd:=by
 subst hk
 obtain ⟨zs,rfl⟩:∃zs,xs=F++[y]++zs:=⟨xs.drop 4,by rw [<- h4,List.take_append_drop]⟩
 have lt:bj.length=3:=rfl
 have hlen:zs.length=(nd.k.T 4 10).length:=by
  have:=C.sz
  simp [xM,lt,hF] at this
  (first | lia | omega)
 have hl:=Ba nd.k
 refine ⟨zs[nd.k.last],?_,zs,List.getElem?_eq_getElem (by (first | lia | omega)),?_⟩
 ·refine aa (List.getElem?_append_right (by simp [hF])) ?_
  simp [hF]
 have get:∀(i:Nat) u b,(nd.k.T 4 10)[i]? = some u->zs[i]? = some b->aN ρ (F++[y]++zs) (Gn h h') b u:=fun i u b eu eb=>by
  have e1:(xM nd.k)[4 + i]? = some u:=by
   unfold xM
   refine aa (List.getElem?_append_right (by simp [lt])) ?_
   simpa [lt] using eu
  have e2:(F++[y]++zs)[4 + i]? = some b:=by
   refine aa (List.getElem?_append_right (by simp [hF])) ?_
   simpa [hF] using eb
  have pu:=List.all_eq_true.mp (F4 nd.k) u (List.mem_of_getElem? eu)
  obtain ⟨x,ow⟩:=C.ob (4 + i) u b e1 e2
  have own:u.own=true:=by cases u <;> first | rfl | cases pu
  have x':aN ρ (F++[y]++zs) h'.get? b u:=by cases u <;> first | exact x | cases pu
  have ne:b≠y:=fun q=>by
   subst q
   have e3:(xM nd.k)[3]? = some (.lst [.int (.v 8),.int (.v 9)]):=by
    unfold xM
    refine aa (List.getElem?_append_left (by simp [lt])) (aa (List.getElem?_append_right (by simp [lt])) ?_)
    rfl
   have e4:(F++[b]++zs)[3]? = some b:=by
    refine aa (List.getElem?_append_left (by simp [hF])) (aa (List.getElem?_append_right (by simp [hF])) ?_)
    simp [hF]
   have:=C.nd 3 (4 + i) _ _ b e3 e1 rfl own e4 e2
   (first | lia | omega)
  have gn:=ow own
  unfold G1 at gn
  rw [if_neg ne] at gn
  exact x'.keep .refl fun z e=>by unfold Gn; refine aa gn ?_; exact e
 obtain ⟨l,e,gd⟩:=gR (Cd nd.k)
 refine oS ?_ e (ir (ρ':=dy nd.a) (fun i j z=>(congrArg ρ.v (aD (ag z))).trans (hv j (Nat.le_of_ble_eq_true (au z)))) gd) (.of hlen fun i b u e1 e2=>get i u b e2 e1)
 intro i j e x ex
 unfold Mz at e
 split at e
 ·rename_i hi
  cases e
  rw [List.append_assoc,List.getElem?_append_left (by (first | lia | omega))] at ex
  refine aa (List.getElem?_append_left (by (first | lia | omega))) ?_; exact ex
 ·split at e
  ·exact ap e
  ·cases e
   rw [List.getElem?_append_right (by simp [hF]; (first | lia | omega))] at ex
   refine aa (List.getElem?_append_right (by (first | lia | omega))) (aa hF ?_)
   simp [hF] at ex
   refine aa (show i - 1 - 3=i - 4 by (first | lia | omega)) ?_
   exact ex
end
theorem rF {P:Nat->Prop} (h0:P 0) (h1:P 1) (h2:P 2) (h3:P 3) (h4:P 4) (h5:P 5) (h6:P 6) (h7:P 7) (h8:P 8) (h9:P 9) (h10:P 10) (h11:P 11) (h12:P 12) (h13:P 13) (h14:P 14) (j:Nat) (hj:j < 15):P j:=by
 match j,hj with
 | 0,_=>exact h0 | 1,_=>exact h1 | 2,_=>exact h2 | 3,_=>exact h3 | 4,_=>exact h4 | 5,_=>exact h5 | 6,_=>exact h6 | 7,_=>exact h7 | 8,_=>exact h8 | 9,_=>exact h9 | 10,_=>exact h10 | 11,_=>exact h11 | 12,_=>exact h12 | 13,_=>exact h13 | 14,_=>exact h14
 | n + 15,h=>(first | lia | omega)
theorem Md {P:Nat->Prop} (h0:P 0) (h1:P 1) (h2:P 2) (h3:P 3) (h4:P 4) (i:Nat) (h:i<=4):P i:=by
 match i,h with | 0,_=>exact h0 | 1,_=>exact h1 | 2,_=>exact h2 | 3,_=>exact h3 | 4,_=>exact h4
theorem cD {α:Type} {p:α->Bool} {l:List α} {i:Nat} {a:α} (h:l.all p=true) (e:l[i]? = some a):p a=true:=List.all_eq_true.mp h a (List.mem_of_getElem? e)
theorem rG (j:Nat) (hj:j < 15):(Fh j).take 4 = [0,1,2,3]:=rF (P:=fun j=>(Fh j).take 4 = [0,1,2,3]) rfl rfl rfl rfl rfl rfl rfl rfl rfl rfl rfl rfl rfl rfl rfl j hj
theorem nh (j:Nat) (hj:j < 15):(hM j).sB=true :=
 rF (P:=fun j=>(hM j).sB=true) (cD (i:=0) d8 rfl) (cD (i:=1) d8 rfl) (cD (i:=2) d8 rfl) (cD (i:=3) d8 rfl) km.1 km.2.1 km.2.2.1 km.2.2.2 (cD (i:=4) d8 rfl) (cD (i:=5) d8 rfl) (cD (i:=6) d8 rfl) (cD (i:=7) d8 rfl) (cD (i:=8) d8 rfl) (cD (i:=9) d8 rfl) (cD (i:=10) d8 rfl) j hj
section
variable {w:World} {A:Around} {gs:Array GenState} {dr:Drawn} {os:OsState} {h:Heap} {n:Nat} {g:Gr} {F:List Addr} {y:Addr} {Vs:List Value} {a c o:Int} {t:Tok}
theorem BA (j:Nat) (hj:j < 15) (hc:0<=c/\c<=980000) (ho:1<=o/\o<=4) (hb:(j=4\/j=6->kJ.den (bz [a,c,o])=0)/\(j=5\/j=7->kJ.den (bz [a,c,o])=1)):(hM j).den (bz [a,c,o]) (ky 3 (bz [a,c,o]) (hM j)):=by
 have D:=ig (a:=a) hc ho
 have f0:∀{j:Nat},j < 15->(hM j).wf 3=true->(hM j).den (bz [a,c,o]) (ky 3 (bz [a,c,o]) (hM j)):=fun hj w=>zr w (tP D (nh _ hj)).1
 have f1:∀{j:Nat} {n0:Int},j < 15->(hM j).wfE (.add (.c 2) kJ) n0 3=true->2 + kJ.den (bz [a,c,o])=n0->(hM j).den (bz [a,c,o]) (ky 3 (bz [a,c,o]) (hM j)):=fun hj w e =>
  VC.fillE (b:=3) (e0:=.add (.c 2) kJ) e w (tP D (nh _ hj)).1 fun k hk=>if_neg (Nat.not_lt.mpr hk)
 have g0:∀{i j:Nat},j < 15->[qf,pV,mX,uh,sO,tK,lK,jx,jm,mo,ml][i]? = some (hM j)->(hM j).den (bz [a,c,o]) (ky 3 (bz [a,c,o]) (hM j)):=fun hj e=>f0 hj (cD El e)
 have e2:∀{x:Int},x=0->2 + x=2:=fun h=>by refine aa h ?_; rfl
 have e3:∀{x:Int},x=1->2 + x=3:=fun h=>by refine aa h ?_; rfl
 exact rF (P:=fun j=>((j=4\/j=6->kJ.den (bz [a,c,o])=0)/\(j=5\/j=7->kJ.den (bz [a,c,o])=1))->(hM j).den (bz [a,c,o]) (ky 3 (bz [a,c,o]) (hM j)))
  (fun zw=>g0 (i:=0) (by decide) rfl) (fun zw=>g0 (i:=1) (by decide) rfl) (fun zw=>g0 (i:=2) (by decide) rfl) (fun zw=>g0 (i:=3) (by decide) rfl)
  (fun hb=>f1 (by decide) ki.1 (e2 (hb.1 (.inl rfl)))) (fun hb=>f1 (by decide) ki.2.1 (e3 (hb.2 (.inl rfl)))) (fun hb=>f1 (by decide) ki.2.2.1 (e2 (hb.1 (.inr rfl)))) (fun hb=>f1 (by decide) ki.2.2.2 (e3 (hb.2 (.inr rfl))))
  (fun zw=>g0 (i:=4) (by decide) rfl) (fun zw=>g0 (i:=5) (by decide) rfl) (fun zw=>g0 (i:=6) (by decide) rfl) (fun zw=>g0 (i:=7) (by decide) rfl) (fun zw=>g0 (i:=8) (by decide) rfl) (fun zw=>g0 (i:=9) (by decide) rfl) (fun zw=>g0 (i:=10) (by decide) rfl) j hj hb
theorem yP {α:Type} {l:List α} {x u:α} {i:Nat} (e:(l++[x])[i]? = some u):l[i]? = some u\/i=l.length/\x=u:=by
 by_cases h:i < l.length
 ·rw [List.getElem?_append_left h] at e; exact .inl e
 ·rw [List.getElem?_append_right (Nat.le_of_not_lt h)] at e
  induction q:i - l.length using Nat.casesOn with
  | zero=>rw [q] at e; exact .inr ⟨by (first | lia | omega),aG e⟩
  | succ m=>rw [q] at e; exact ap e
theorem uD {α:Type} {l:List α} {i:Nat} {a:α} (e:l[i]? = some a):i < l.length:=(List.getElem?_eq_some_iff.mp e).1
theorem Co.tail1 {ρ:Rho} {O:Opq} {G:Gr} {T:List AO} {F:List Addr} {pc:List (CE×Bool)} {y:Addr} {o:AO} (B:gV w G) (kp:∀b o,G b=some o->h.get? b=some o) (og:∀b o,O.g b=some o->G b=some o) (ft:All2 (fun a o=>aC ρ O (F++[y]) h a o/\o.own=false) F T)
  (x:aC ρ O (F++[y]) h y o) (gy:G y=none) (hpc:∀p∈pc,p.1.den ρ↔p.2=true):Co w ρ O G h (T++[o]) pc (F++[y]):=by
 have key:∀{i:Nat} {u:AO} {b:Addr},(T++[o])[i]? = some u->(F++[y])[i]? = some b->(aC ρ O (F++[y]) h b u/\u.own=false)\/(i=T.length/\o=u/\y=b):=fun {i u b} e e'=>by
  rcases yP e with e | ⟨hi,ho⟩
  ·rw [List.getElem?_append_left (by refine aa ft.len ?_; exact uD e)] at e'
   obtain ⟨u',z1,z⟩:=ft.get e'
   exact .inl (aG (z1.symm.trans e)▸z)
  ·rcases yP e' with e' | ⟨_,hy⟩
   ·exact absurd (uD e') (by refine aa ft.len (aa hi ?_); (first | lia | omega))
   ·exact .inr ⟨hi,ho,hy⟩
 have no:∀{u:AO},u.own=false->u.own=true->False:=fun a b=>bG (a.symm.trans b)
 refine ⟨B,kp,og,by refine aa List.length_append (aa List.length_append (aa ft.len ?_)); rfl,fun i u b e e'=>?_,fun i i' u u' b e1 e2 w1 w2 e3 e4=>?_,hpc⟩
 ·rcases key e e' with z | ⟨-,ho,hy⟩
  ·exact ⟨z.1,fun ow=>(no z.2 ow).elim⟩
  ·exact ⟨ho▸hy▸x,fun zw=>hy▸gy⟩
 ·rcases key e1 e3 with z | ⟨h1,-,-⟩
  ·exact (no z.2 w1).elim
  ·rcases key e2 e4 with z | ⟨h2,-,-⟩
   ·exact (no z.2 w2).elim
   ·exact h1.trans h2.symm
theorem IM {F xs:List Addr} {y:Addr} (hF:F.length=3) (p:Pre (F++[y]) xs) : [0,1,2,3].map (fun i=>xs.getD i 0)=F++[y]:=by
 obtain ⟨t,e⟩:=p
 refine aa e ?_
 match F,hF with
 | [_,_,_],_=>rfl
set_option tactic.hygienic true
theorem qP (j:Nat) (hj:j < 15) (Fo:aT w g F) (hg:∀b o,g b=some o->G1 h y b=some o) (B:gV w (G1 h y)) (L:At h.get? y (.lst Vs)) (hi:IntsAre Vs [a,c]) (hc:0<=c/\c<=980000) (ho:1<=o/\o<=4)
  (hpc:∀p∈qe j,p.1.den (bz [a,c,o])↔p.2=true) (hb:(j=4\/j=6->kJ.den (bz [a,c,o])=0)/\(j=5\/j=7->kJ.den (bz [a,c,o])=1)) (R:Room A 120) {f1:Addr} (hf1:F[1]? = some f1) {Q:Value->Shared->Prop} {E:Value->Shared->Prop}
  (q:∀h' n' x nd a' c' Vs',(∀b o,b≠y->h.get? b=some o->h'.get? b=some o)->At h'.get? y (.lst Vs')->IntsAre Vs' [a',c']->c<=c'->c'<=c + 20->bP (Gn h h') F x nd->nd.bd->nd=yi j [a,c,o]->Q (.ref x) ⟨h',gs,dr,n',os⟩) :
  wpAny (model pr w) A (call (.ref 871) [.ref y,.ref f1,.int o t]) Q E ⟨h,gs,dr,n,os⟩:=by
 cases hi; rename_i t0 _ hi; cases hi; rename_i t1 _ hi; cases hi
 have hF:F.length=3:=by obtain ⟨_,_,_,rfl,_⟩:=id Fo; rfl
 have lt:bj.length=3:=rfl
 have C0:Co w (bz [a,c,o]) (OG w g) (G1 h y) h (bj++[.lst [.int (.v 0),.int (.v 1)]]) (qe j) (F++[y]):=by
  have ft:=gf (w:=w) (ρ:=bz [a,c,o]) (rest:=[y]) (h:=h) Fo
  exact Co.tail1 B (fun b o e=>by unfold G1 at e; split at e; exact ap e; exact e) hg ft ⟨_,.cons ⟨t0,rfl⟩ (.cons ⟨t1,rfl⟩ .nil),L⟩ (if_pos rfl) hpc
 have ey:(F++[y])[3]? = some y:=by refine aa (List.getElem?_append_right (by (first | decide | lia | omega))) ?_; simp [hF]
 have e1:(F++[y])[1]? = some f1:=by refine aa (List.getElem?_append_left (by (first | decide | lia | omega))) ?_; exact hf1
 refine NN (v:=.loc (4 + (Bb j).last)) (ρ':=ky 3 (bz [a,c,o]) (hM j)) (r0:=80) BY (AU w.params j hj) R C0 (.cons ⟨y,ey,rfl⟩ (.cons ⟨f1,e1,rfl⟩ (.cons ⟨t,rfl⟩ .nil))) (BA j hj hc ho hb) fun V h' as' n' C p dv=>?_
 have h4:((Fh j).map fun i=>as'.getD i 0).take 4=F++[y]:=by
  refine aa (Eq.symm List.map_take) (aa (rG j hj) ?_); exact IM hF p
 generalize ((Fh j).map fun i=>as'.getD i 0)=xs at C h4 dv
 obtain ⟨x,lx,N⟩:=tF (nd:=yi j [a,c,o]) hF rfl (fun i hi=>by
  refine aa (show (ky 3 (bz [a,c,o]) (hM j)).v (10 + i)=(hM j).ev (bz [a,c,o]) (10 + i) from if_neg (by (first | decide | lia | omega))) ?_
  exact Md (P:=fun i=>(hM j).ev (bz [a,c,o]) (10 + i)=(yi j [a,c,o]).a.getD i 0) rfl rfl rfl rfl rfl i hi) C h4
 have lx:xs[4 + (Bb j).last]? = some x:=lx
 obtain ⟨x',ex,rfl⟩:=dv
 rw [lx] at ex; cases ex
 have x3:xs[3]? = some y:=by
  have:(xs.take 4)[3]? = some y:=by refine aa h4 ?_; exact ey
  rwa [List.getElem?_take_of_lt (by (first | decide | lia | omega))] at this
 have o3:(xM (Bb j))[3]? = some (.lst [.int (.v 8),.int (.v 9)]):=by
  unfold xM
  refine aa (List.getElem?_append_left (by simp [lt])) (aa (List.getElem?_append_right (by simp [lt])) ?_)
  rfl
 obtain ⟨⟨Vs',z1,z2⟩,-⟩:=C.ob 3 _ y o3 x3
 cases z1; rename_i d0 z1; cases z1; rename_i d1 z1; cases z1
 obtain ⟨u0,rfl⟩:=d0
 obtain ⟨u1,rfl⟩:=d1
 obtain ⟨sf,gr,bd⟩:=tP (ig (a:=a) hc ho) (nh j hj)
 refine q h' n' x _ _ _ _ (fun b o nb e=>C.kp b o (by unfold G1; refine aa (if_neg nb) ?_; exact e)) z2 (.cons _ _ (.cons _ _ .nil)) gr.1 gr.2 N ?_ rfl
 intro i
 show -8<=(yi j [a,c,o]).a.getD i 0/\(yi j [a,c,o]).a.getD i 0<=3866630
 by_cases hi:i<=4
 ·exact Md (P:=fun i=>-8<=(yi j [a,c,o]).a.getD i 0/\(yi j [a,c,o]).a.getD i 0<=3866630) (bd 10 (by decide)) (bd 11 (by decide)) (bd 12 (by decide)) (bd 13 (by decide)) (bd 14 (by decide)) i hi
 ·refine aa (List.getD_eq_getElem?_getD) (aa (List.getElem?_eq_none (Nat.not_le.mp hi)) ?_); exact ⟨(by decide:(-8:Int)<=0),(by decide:(0:Int)<=3866630)⟩
set_option tactic.hygienic false
end
noncomputable def VC.iB (k:Nat) (lo hi:Int):VC->Bool
 | .ok l=>(bv k l).any fun e=>(pO e).any fun p=>decide (lo<=p.1) && decide (p.2<=hi)
 | .br c a b=>(match cT c with | true=>a.iB k lo hi | false=>a.iB k lo hi && b.iB k lo hi)
 | .req _ t=>t.iB k lo hi
 | .fail=>false
theorem gT {ρ:Rho} (D:Dr ρ) {k:Nat} {lo hi:Int} {vc:VC} (h:vc.iB k lo hi=true):lo<=vc.ev ρ k/\vc.ev ρ k<=hi:=by
 induction vc with
 | ok l =>
  obtain ⟨e,he,h⟩:=cv h
  obtain ⟨p,hp,h⟩:=cv h
  have:=cZ D hp
  have z:VC.ev ρ k (.ok l)=e.den ρ:=by unfold VC.ev; exact aa he rfl
  refine aa z ?_
  exact ⟨Int.le_trans (of_decide_eq_true (ag h)) this.1,Int.le_trans this.2 (of_decide_eq_true (au h))⟩
 | br c a b ia ib =>
  have h:(match cT c with | true=>a.iB k lo hi | false=>a.iB k lo hi && b.iB k lo hi)=true:=h
  induction q:cT c with
  | true=>rw [q] at h; refine aa (mI (te D q)) ?_; exact ia h
  | false =>
   rw [q] at h
   rcases Classical.em (c.den ρ) with hc | hc
   ·refine aa (mI hc) ?_; exact ia (ag h)
   ·refine aa (sy hc) ?_; exact ib (au h)
 | req c t ih=>exact ih h
 | fail=>exact bG h
theorem oH : [qf,pV,jx,jm].all (VC.iB 10 97 99)=true:=by kernel_rfl
theorem j5:mX.iB 12 0 3=true/\mX.iB 14 0 3=true:=⟨by kernel_rfl,by kernel_rfl⟩
noncomputable def Cy (W F G X:Nat) (e:IE):Option Int:=match e.c? with
 | some n=>some n
 | none=>if e.same pW then some W else if e.same pF then some F else if e.same pG then some G else if e.same pH then some X else none
noncomputable def L7 (W F G X:Nat) (c:CE):Option Bool:=match c with
 | .lt a b=>(aq (Cy W F G X a) (Cy W F G X b)).map fun p=>decide (p.1 < p.2)
 | .eq a b=>(aq (Cy W F G X a) (Cy W F G X b)).map fun p=>decide (p.1=p.2)
 | _=>none
noncomputable def Mj (W F G X j:Nat):Bool:=(qe j).all (fun p=>L7 W F G X p.1 == some p.2) && (!(j == 4 || j == 6) || X == 0) && (!(j == 5 || j == 7) || X == 1)
theorem yG:((List.range 13).all fun W=>(List.range 2).all fun F=>(List.range 3).all fun G=>(List.range 2).all fun X=>(List.range 15).any fun j=>Mj W F G X j)=true:=by kernel_rfl
theorem vP {n:Nat} {p:Nat->Bool} (h:(List.range n).all p=true) {i:Nat} (hi:i < n):p i=true:=List.all_eq_true.mp h i (List.mem_range.mpr hi)
theorem wP {e x:IE} {v:Option Int} {n m:Int} {ρ:Rho} (h:(if e.same x=true then some m else v)=some n) (hx:x.den ρ=m) (k:v=some n->e.den ρ=n):e.den ρ=n:=by
 by_cases q:e.same x=true
 ·rw [if_pos q] at h; refine aa (IE.same_ok q) (aa hx ?_); exact aG h
 ·rw [if_neg q] at h; exact k h
theorem kB {ρ:Rho} {W F G X:Nat} (hW:pW.den ρ=W) (hF:pF.den ρ=F) (hG:pG.den ρ=G) (hX:pH.den ρ=X) {e:IE} {n:Int} (h:Cy W F G X e=some n):e.den ρ=n:=by
 unfold Cy at h
 induction q:e.c? with
 | some m=>rw [q] at h; refine aa (bO q) ?_; exact aG h
 | none =>
  rw [q] at h
  exact wP h hW fun h=>wP h hF fun h=>wP h hG fun h=>wP h hX fun h=>ap h
theorem Cj {ρ:Rho} {W F G X:Nat} (hW:pW.den ρ=W) (hF:pF.den ρ=F) (hG:pG.den ρ=G) (hX:pH.den ρ=X) {c:CE} {b:Bool} (h:L7 W F G X c=some b):c.den ρ↔b=true:=by
 induction c using CE.casesOn <;> try exact ap h
 ·obtain ⟨p,e,h⟩:=gR h
  refine aa (Eq.symm h) ?_
  show IE.den ρ _ < IE.den ρ _↔_
  rw [kB hW hF hG hX (ah e).1,kB hW hF hG hX (ah e).2,decide_eq_true_iff]
 ·obtain ⟨p,e,h⟩:=gR h
  refine aa (Eq.symm h) ?_
  show IE.den ρ _=IE.den ρ _↔_
  rw [kB hW hF hG hX (ah e).1,kB hW hF hG hX (ah e).2,decide_eq_true_iff]
theorem Au {ρ:Rho} {W F G X j:Nat} (hW:pW.den ρ=W) (hF:pF.den ρ=F) (hG:pG.den ρ=G) (hX:pH.den ρ=X) (h:Mj W F G X j=true):(∀p∈qe j,p.1.den ρ↔p.2=true)/\(j=4\/j=6->kJ.den ρ=0)/\(j=5\/j=7->kJ.den ρ=1):=by
 have hX:kJ.den ρ=X:=hX
 refine ⟨fun p m=>Cj hW hF hG hX (aD (List.all_eq_true.mp (ag (ag h)) p m)),fun z=>?_,fun z=>?_⟩
 ·have y:=au (ag h)
  refine aa hX ?_
  rcases z with z | z <;> · rw [z] at y; exact congrArg Nat.cast (aD y)
 ·have y:=au h
  refine aa hX ?_
  rcases z with z | z <;> · rw [z] at y; exact congrArg Nat.cast (aD y)
theorem j8 {x:Int} {n:Nat} (h:0<=x/\x<=n):∃m:Nat,m < n + 1/\x=m:=⟨x.toNat,by (first | lia | omega),by (first | lia | omega)⟩
section
variable {w:World} {A:Around} {gs:Array GenState} {dr:Drawn} {os:OsState} {h:Heap} {n:Nat} {g:Gr} {F:List Addr} {y:Addr} {Vs:List Value} {a c o:Int} {t:Tok}
theorem AH (j:Nat) (hj:j < 15) (hc:0<=c/\c<=980000) (ho:1<=o/\o<=4):(yi j [a,c,o]).ok:=by
 have D:=ig (a:=a) hc ho
 refine rF (P:=fun j=>(yi j [a,c,o]).ok) (gT D (cD (i:=0) oH rfl)) (gT D (cD (i:=1) oH rfl)) ?_ trivial trivial trivial trivial trivial trivial trivial trivial (gT D (cD (i:=2) oH rfl)) (gT D (cD (i:=3) oH rfl)) trivial trivial j hj
 exact ⟨(gT D j5.1).1,(gT D j5.1).2,(gT D j5.2).1,(gT D j5.2).2⟩
theorem th (Fo:aT w g F) (hg:∀b o,g b=some o->G1 h y b=some o) (B:gV w (G1 h y)) (L:At h.get? y (.lst Vs)) (hi:IntsAre Vs [a,c]) (hc:0<=c/\c<=980000) (ho:1<=o/\o<=4) (R:Room A 120) {f1:Addr} (hf1:F[1]? = some f1) {Q:Value->Shared->Prop} {E:Value->Shared->Prop}
  (q:∀h' n' x nd a' c' Vs',(∀b o,b≠y->h.get? b=some o->h'.get? b=some o)->At h'.get? y (.lst Vs')->IntsAre Vs' [a',c']->c<=c'->c'<=c + 20->bP (Gn h h') F x nd->nd.bd->nd.ok->nd.k≠.pck->Q (.ref x) ⟨h',gs,dr,n',os⟩) :
  wpAny (model pr w) A (call (.ref 871) [.ref y,.ref f1,.int o t]) Q E ⟨h,gs,dr,n,os⟩:=by
 have D:=ig (a:=a) hc ho
 have go:∀j,j < 15->(∀p∈qe j,p.1.den (bz [a,c,o])↔p.2=true)->((j=4\/j=6->kJ.den (bz [a,c,o])=0)/\(j=5\/j=7->kJ.den (bz [a,c,o])=1))->wpAny (model pr w) A (call (.ref 871) [.ref y,.ref f1,.int o t]) Q E ⟨h,gs,dr,n,os⟩:=fun j hj hpc hb =>
  qP j hj Fo hg B L hi hc ho hpc hb R hf1 fun h' n' x nd a' c' Vs' k l i g1 g2 N b e=>q h' n' x nd a' c' Vs' k l i g1 g2 N b (by refine aa e ?_; exact AH j hj hc ho) (by
   refine aa e ?_; exact rF (P:=fun j=>Bb j≠.pck) nofun nofun nofun nofun nofun nofun nofun nofun nofun nofun nofun nofun nofun nofun nofun j hj)
 apply bc;intro ng
 obtain ⟨W,w1,hW⟩:=j8 (cZ D (e:=pW) (p:=(0,12)) (by kernel_rfl))
 obtain ⟨X,x1,hF⟩:=j8 (cZ D (e:=pF) (p:=(0,1)) (by kernel_rfl))
 obtain ⟨Y,y1,hG⟩:=j8 (cZ D (e:=pG) (p:=(0,2)) (by kernel_rfl))
 obtain ⟨Z,z1,hZ⟩:=j8 (cZ D (e:=pH) (p:=(0,1)) (by kernel_rfl))
 obtain ⟨j,hj,k⟩:=List.any_eq_true.mp (vP (vP (vP (vP yG w1) x1) y1) z1)
 apply ng;clear ng
 have z:=Au hW hF hG hZ k
 exact go j (List.mem_range.mp hj) z.1 z.2
end
noncomputable def Nd.flat (nd:Nd):List Nd:=match nd.k with
 | .dsc0=>[] | .dsc1=>[⟨.chr,[nd.i 0]⟩] | .dsc2=>[⟨.chr,[nd.i 0]⟩,⟨.krn,[nd.i 1,0]⟩] | _=>[nd]
theorem Jz {a x:Int} (h:0<=a):max a x=max a (max 0 x):=by rw [<- Int.max_assoc,Int.max_eq_left h]
theorem Mv {a x:Int} (h:0<=a):max (max a x) 0=max a (max 0 (max x 0)):=by rw [<- Jz h,Int.max_assoc]
theorem qo {nd:Nd} {t:Tot} (h0:0<=t.H) (h1:0<=t.D):nd.flat.foldl Tot.add t=t.add nd:=by
 have z:∀x:Int,x=x + 0:=fun x=>(Int.add_zero x).symm
 have y:∀x:Int,x + 0 + 0=x + 0:=fun x=>Int.add_zero _
 match nd with
 | ⟨k,a⟩ =>
 induction k with
 | dsc0=>exact Tot.ext' ⟨(Int.max_eq_left h0).symm,(Int.max_eq_left h1).symm,z _,z _,z _,z _,z _,z _,z _,z _,z _⟩
 | dsc1=>exact Tot.ext' ⟨Jz h0,Jz h1,rfl,rfl,rfl,rfl,rfl,rfl,rfl,rfl,rfl⟩
 | dsc2=>exact Tot.ext' ⟨Mv h0,Mv h1,Int.add_assoc _ _ _,y _,y _,y _,y _,y _,y _,y _,y _⟩
 | _=>rfl
theorem iV:∀(l:List Nd) {t:Tot},0<=t.H->0<=t.D->(l.flatMap Nd.flat).foldl Tot.add t=l.foldl Tot.add t
 | [],_,_,_=>rfl
 | a::l,t,h0,h1=>by
  refine aa List.flatMap_cons (aa List.foldl_append (aa (qo h0 h1) (aa List.foldl_cons ?_)))
  exact iV l (Int.le_trans h0 (Int.le_max_left _ _)) (Int.le_trans h1 (Int.le_max_left _ _))
theorem fU (l:List Nd):ad (l.flatMap Nd.flat)=ad l:=iV l (Int.le_refl _) (Int.le_refl _)
theorem vR {B:Bx} {nd:Nd}:aE (Nd.fl B) nd.flat=nd.fl B:=by
 obtain ⟨k,a⟩:=nd
 cases k <;> first | rfl | (simp only [Nd.flat,aE,List.map_cons,List.map_nil,List.sum_cons,List.sum_nil]; simp [Nd.fl])
theorem kK {B:Bx}:∀l:List Nd,aE (Nd.fl B) (l.flatMap Nd.flat)=aE (Nd.fl B) l
 | []=>rfl
 | a::l=>by
  rw [List.flatMap_cons,iF,kK l,vR]
  simp [aE]
theorem oT (l:List Nd):(ad l).n=aE Nd.w l:=by rw [cP]
theorem qL {B:Bx} (h:B.ok) (l:List Nd):(av B (l.flatMap Nd.flat)).getLast? = (av B l).getLast?:=by
 rw [fN h,fN h,kK,<- oT,<- oT,fU]
structure Tot.fit (t:Tot) (m:Nat):Prop where
 H:0<=t.H/\t.H<=8000000
 D:0<=t.D/\t.D<=8000000
 n : -8 * (m:Int)<=t.n/\t.n<=3900000 * m
 s:∀x,x∈[t.s0,t.s1,t.s2,t.s3,t.r0,t.r1,t.r2,t.r3]->-8 * (m:Int)<=x/\x<=3900000 * m
theorem BW (c:Int):4<=fW c/\fW c<=11:=by unfold fW; split; decide; split <;> decide
theorem HG (c:Int):1<=fH c/\fH c<=7:=by unfold fH; split; decide; split <;> decide
theorem Ic (c:Int):0<=fD c/\fD c<=9:=by unfold fD; split; decide; split <;> decide
theorem yS {p:Prop} [Decidable p] {x:Int} (h : -8<=x/\x<=3900000) : -8<=(if p then x else 0)/\(if p then x else 0)<=3900000:=by split; exact h; decide
theorem iY {a b m:Int} (h:a<=m) (k:b<=m):max a b<=m:=Int.max_le.mpr ⟨h,k⟩
theorem EA {x y:Int} (a:x<=3866630) (b : -8<=y):x - y<=8000000:=by omega
theorem Ds {x y:Int} (a:x<=3866630) (b:y<=3866630):x + y<=8000000:=by omega
theorem K8 {c y:Int} (b : -8<=y/\y<=3866630) : -8<=fW c + y/\fW c + y<=3900000:=by have:=BW c; omega
theorem z6 {nd:Nd} (b:nd.bd) (np:nd.k≠.pck):nd.h<=8000000/\nd.d<=8000000/\(-8<=nd.w/\nd.w<=3900000)/\∀k,(-8<=nd.st k/\nd.st k<=3900000)/\(-8<=nd.sh k/\nd.sh k<=3900000):=by
 have z:(0:Int)<=8000000:=by decide
 have z2 : -8<=(0:Int)/\(0:Int)<=3900000:=by decide
 have s:∀k:Int,(-8<=(0:Int)/\(0:Int)<=3900000)/\-8<=(0:Int)/\(0:Int)<=3900000:=fun zw=>⟨z2,z2⟩
 have bb:∀j,-8<=nd.i j/\nd.i j<=3900000:=fun j=>⟨(b j).1,Int.le_trans (b j).2 (by decide)⟩
 have w0 : -8<=fW (nd.i 0)/\fW (nd.i 0)<=3900000:=⟨Int.le_trans (by decide) (BW _).1,Int.le_trans (BW _).2 (by decide)⟩
 have h0:fH (nd.i 0)<=8000000:=Int.le_trans (HG _).2 (by decide)
 have d0:fD (nd.i 0)<=8000000:=Int.le_trans (Ic _).2 (by decide)
 have hb:nd.i 1 - nd.i 3<=8000000:=EA (b 1).2 (b 3).1
 have db:nd.i 2 + nd.i 3<=8000000:=Ds (b 2).2 (b 3).2
 have w2:=K8 (c:=nd.i 0) (b 1)
 match nd with
 | ⟨k,a⟩ =>
 induction k with
 | chr=>exact ⟨h0,d0,w0,s⟩
 | skp=>exact ⟨z,z,bb 0,fun k=>⟨yS (bb 1),yS (bb 3)⟩⟩
 | box2=>exact ⟨hb,db,bb 0,s⟩
 | box3=>exact ⟨hb,db,bb 0,s⟩
 | pck=>exact absurd rfl np
 | rul4=>exact ⟨z,show (4:Int)<=8000000 by decide,bb 0,s⟩
 | dsc0=>exact ⟨z,z,z2,s⟩
 | pen=>exact ⟨z,z,z2,s⟩
 | dsc1=>exact ⟨iY z h0,iY z d0,w0,s⟩
 | dsc2=>exact ⟨iY z (iY h0 z),iY z (iY d0 z),w2,s⟩
 | _=>exact ⟨z,z,bb 0,s⟩
theorem zl {x y:Int} (a:0<=x/\x<=8000000) (b:y<=8000000):0<=max x y/\max x y<=8000000:=⟨Int.le_trans a.1 (Int.le_max_left _ _),iY a.2 b⟩
theorem gb {x y:Int} {m:Nat} (a : -8 * (m:Int)<=x/\x<=3900000 * m) (b : -8<=y/\y<=3900000) : -8 * ((m + 1:Nat):Int)<=x + y/\x + y<=3900000 * (m + 1:Nat):=by omega
theorem Ek {p:Int->Prop} {a b c d e f g h:Int} (l:p a/\p b/\p c/\p d/\p e/\p f/\p g/\p h):∀x,x∈[a,b,c,d,e,f,g,h]->p x:=by simpa using l
theorem GK {p:Int->Prop} {a b c d e f g h:Int} (l:∀x,x∈[a,b,c,d,e,f,g,h]->p x):p a/\p b/\p c/\p d/\p e/\p f/\p g/\p h:=by simpa using l
theorem wT {t:Tot} {m:Nat} {nd:Nd} (f:t.fit m) (b:nd.bd) (np:nd.k≠.pck):(t.add nd).fit (m + 1) :=
 let ⟨h,d,w,z⟩:=z6 b np
 let ⟨g1,g2,g3,g4,g5,g6,g7,g8⟩:=GK f.s
 ⟨zl f.H h,zl f.D d,gb f.n w,Ek ⟨gb g1 (z 0).1,gb g2 (z 1).1,gb g3 (z 2).1,gb g4 (z 3).1,gb g5 (z 0).2,gb g6 (z 1).2,gb g7 (z 2).2,gb g8 (z 3).2⟩⟩
theorem lw:∀(l:List Nd) {t:Tot} {m:Nat},t.fit m->(∀nd∈l,nd.bd/\nd.k≠.pck)->(l.foldl Tot.add t).fit (m + l.length)
 | [],_,_,f,_=>f
 | a::l,t,m,f,h=>by
  have:=lw l (wT f (h a (.head _)).1 (h a (.head _)).2) fun b mb=>h b (.tail _ mb)
  refine aa List.foldl_cons (aa List.length_cons ?_)
  refine aa (show m + (l.length + 1)=m + 1 + l.length by (first | lia | omega)) ?_; exact this
theorem jr {l:List Nd} (h:∀nd∈l,nd.bd/\nd.k≠.pck):(ad l).fit l.length:=by
 have z:∀x:Int,x∈[0,0,0,0,0,0,0,0]->-8 * ((0:Nat):Int)<=x/\x<=3900000 * (0:Nat):=Ek (p:=fun x=>-8 * ((0:Nat):Int)<=x/\x<=3900000 * (0:Nat)) (by decide)
 have:=lw l (t:=.zero) (m:=0) ⟨by decide,by decide,(z 0 (.head _)),z⟩ h
 rwa [Nat.zero_add] at this
theorem Dq {x:Int} {m:Nat} (a : -8 * (m:Int)<=x/\x<=3900000 * m) (hm:m<=20) : -160<=x/\x<=78000000:=by omega
theorem DE {x:Int} (a:0<=x/\x<=8000000) : -1073741823<=x/\x<=1073741823:=by omega
theorem Jf {x y:Int} (a : -160<=x/\x<=78000000) (b : -100000000<=y/\y<=100000000) : -1073741823<=x + y/\x + y<=1073741823:=by omega
theorem tv {t:Tot} {m:Nat} (f:t.fit m) (hm:m<=20) {mode am:Int} (md:mode=0\/mode=1) (ha : -100000000<=am/\am<=100000000):HpOk t mode am :=
 ⟨md,⟨Int.le_trans (by decide) ha.1,Int.le_trans ha.2 (by decide)⟩,fun zw=>Jf (Dq f.n hm) ha,DE f.H,DE f.D,Int.lt_of_le_of_lt (Dq (GK f.s).1 hm).2 (by decide),Int.lt_of_le_of_lt (Dq (GK f.s).2.2.2.2.1 hm).2 (by decide)⟩
noncomputable def aI (t:Tot) (e:Int):Bx:=⟨bg t e 12,bg t e 13,bg t e 14,bg t e 15⟩
theorem cH {t:Tot} {m:Nat} (f:t.fit m) (hm:m<=20) {e:Int} (he : -400000000<=e/\e<=400000000):(aI t e).ok:=by
 have l:∀{x:Int},-8 * (m:Int)<=x/\x<=3900000 * m->-(2 ^ 90) < x/\x < 2 ^ 90:=fun a=>⟨Int.lt_of_lt_of_le (by decide) (Dq a hm).1,Int.lt_of_le_of_lt (Dq a hm).2 (by decide)⟩
 let ⟨g1,g2,g3,g4,g5,g6,g7,g8⟩:=GK f.s
 have z:=xv (t:=t) (e:=e) (fun k h1 h2=>match k,h1,h2 with
  | 3,_,_=>l g1 | 4,_,_=>l g2 | 5,_,_=>l g3 | 6,_,_=>l g4 | 7,_,_=>l g5 | 8,_,_=>l g6 | 9,_,_=>l g7 | 10,_,_=>l g8
  | k + 11,_,h=>absurd h (by omega)) ⟨Int.lt_of_lt_of_le (by decide) he.1,Int.lt_of_le_of_lt he.2 (by decide)⟩
 exact ⟨z.1,z.2.1,z.2.2⟩
theorem uy {t:Tot}:aI t 0=⟨0,0,0,1⟩:=by
 unfold aI; exact aa ((w7 t).1) (aa ((w7 t).2.1) (aa ((w7 t).2.2.1) (aa ((w7 t).2.2.2.1) rfl)))
theorem hA.le {g g':Gr} {t:Addr} {ns:List Int} (k:∀a o,g a=some o->g' a=some o) (x:hA g t ns):hA g' t ns:=let ⟨Vs,i,l⟩:=x; ⟨Vs,i,l.le (k _)⟩
theorem ni.le {w:World} {g g':Gr} {d:Addr} (k:∀a o,g a=some o->g' a=some o) (x:ni w g d):ni w g' d :=
 let ⟨t1,t2,t3,D,a,b,c⟩:=x; ⟨t1,t2,t3,D.le (k _),a.le k,b.le k,c.le k⟩
theorem aT.le {w:World} {g g':Gr} {F:List Addr} (k:∀a o,g a=some o->g' a=some o) (x:aT w g F):aT w g' F:=by
 apply bc;intro ng
 obtain ⟨f0,f1,f2,e,a,b,c⟩:=x
 apply ng;clear ng
 exact ⟨f0,f1,f2,e,a.keep .refl (k _),b.keep .refl (k _),c.le k⟩
theorem bP.le {g g':Gr} {F:List Addr} {a:Addr} {nd:Nd} (k:∀a o,g a=some o->g' a=some o) (x:bP g F a nd):bP g' F a nd:=by
 obtain ⟨as2,e,z⟩:=x
 exact ⟨as2,e,z.mono fun zw zw q=>q.keep .refl (k _)⟩
section
variable {w:World} {ρ:Rho} {O:Opq} {G:Gr} {env:Env} {h h':Heap} {s:St} {ob:List AO} {pc:List (CE×Bool)} {as:List Addr}
theorem Co.adds {us:List AO} {ys:List Addr} (S:Co w ρ O G h ob pc as) (k:h.StaysIn h') (sz:ys.length=us.length) (nd:ys.Nodup)
  (nw:∀(t:Nat) u a,us[t]? = some u->ys[t]? = some a->aN ρ (as++ys) h'.get? a u/\h.get? a=none):Co w ρ O G h' (ob++us) pc (as++ys):=by
 have cs:∀(i:Nat) o a,(ob++us)[i]? = some o->(as++ys)[i]? = some a->(ob[i]? = some o/\as[i]? = some a)\/∃j,i=as.length + j/\us[j]? = some o/\ys[j]? = some a:=fun i o a e e'=>by
  by_cases hi:i < ob.length
  ·rw [List.getElem?_append_left hi] at e
   rw [List.getElem?_append_left (by refine aa S.sz ?_; exact hi)] at e'
   exact .inl ⟨e,e'⟩
  ·rw [List.getElem?_append_right (by omega)] at e
   rw [List.getElem?_append_right (by refine aa S.sz ?_; omega),S.sz] at e'
   exact .inr ⟨i - ob.length,by refine aa S.sz ?_; omega,e,e'⟩
 have old:∀(i:Nat) o a,ob[i]? = some o->as[i]? = some a->o.own=true->∃x,h.get? a=some x:=fun i o a e e' ow=>by
  have x:=(S.ob i o a e e').1
  cases o with
  | lst vs=>obtain ⟨_,_,_,z,_⟩:=x; exact ⟨_,z⟩
  | tup vs=>obtain ⟨_,_,_,z,_⟩:=x; exact ⟨_,z⟩
  | ns vs=>obtain ⟨_,_,_,z,_⟩:=x; exact ⟨_,z⟩
  | inst C j=>obtain ⟨_,_,_,z,_⟩:=x; exact ⟨_,z⟩
  | cell v=>obtain ⟨_,_,_,z,_⟩:=x; exact ⟨_,z⟩
  | il b es=>obtain ⟨_,_,_,z,_⟩:=x; exact ⟨_,z⟩
  | pl vs=>obtain ⟨_,_,_,z,_⟩:=x; exact ⟨_,z⟩
  | raw t=>obtain ⟨_,z,_⟩:=x; exact ⟨_,z⟩
  | rf b=>obtain ⟨_,z,_⟩:=x; exact ⟨_,z⟩
  | dc ps=>obtain ⟨_,_,_,_,z,_⟩:=x; exact ⟨_,z⟩
  | lit j i=>obtain ⟨_,_,_,z,_⟩:=x; exact ⟨_,z⟩
  | tit j i=>obtain ⟨_,_,_,z,_⟩:=x; exact ⟨_,z⟩
  | opq k=>exact bG ow
  | dead=>exact bG ow
  | fz o=>exact bG ow
 refine ⟨S.bs,fun a o e=>k _ _ (S.kp a o e),S.og,by simp [S.sz,sz],fun i o a e e'=>?_,fun i i' o o' a e1 e2 w1 w2 e3 e4=>?_,S.pc⟩
 ·rcases cs i o a e e' with ⟨f1,f2⟩ | ⟨j,rfl,f2,f3⟩
  ·obtain ⟨x,y⟩:=S.ob i o a f1 f2
   exact ⟨x.keep ⟨_,rfl⟩ fun zw zw ex=>k _ _ ex,y⟩
  ·obtain ⟨z1,z2⟩:=nw j o a f2 f3
   refine ⟨aN.at (G:=h'.get?) (fun zw e=>e) z1,fun zw=>?_⟩
   induction q:G a with
   | none=>rfl
   | some x=>have:=S.kp _ _ q; rw [z2] at this; exact ap this
 ·rcases cs i o a e1 e3 with ⟨f1,f2⟩ | ⟨j,rfl,f2,f3⟩
  ·rcases cs i' o' a e2 e4 with ⟨g1,g2⟩ | ⟨j',rfl,g2,g3⟩
   ·exact S.nd i i' o o' a f1 g1 w1 w2 f2 g2
   ·obtain ⟨x,ex⟩:=old i o a f1 f2 w1
    rw [(nw j' o' a g2 g3).2] at ex; exact ap ex
  ·rcases cs i' o' a e2 e4 with ⟨g1,g2⟩ | ⟨j',rfl,g2,g3⟩
   ·obtain ⟨x,ex⟩:=old i' o' a g1 g2 w2
    rw [(nw j o a f2 f3).2] at ex; exact ap ex
   ·exact aa ((List.getElem?_inj (List.getElem?_eq_some_iff.mp f3).1 nd).mp (f3.trans g3.symm)) rfl
theorem Co.link {ρ':Rho} {O':Opq} {us0 us:List AO} {xs:List Addr} {js:List Nat} {mp:Nat->Option Nat} (S:Co w ρ O G h ob pc as) (N:Co w ρ' O' h.get? h' us0 [] xs) (jn:js.Nodup) (hj:(js.all fun j=>(us0[j]?).any AO.own)=true)
  (hl:us.length=js.length) (hm:Mp mp xs (as++js.map fun j=>xs.getD j 0)) {ls:List Ob1} (re:cE mp us0 js us=some ls) (hp:us.all AO.plainA=true) (o:bD ρ' ρ ls):Co w ρ O G h' (ob++us) pc (as++js.map fun j=>xs.getD j 0):=by
 have at':∀(t:Nat) a,(js.map fun j=>xs.getD j 0)[t]? = some a->∃j o,js[t]? = some j/\us0[j]? = some o/\o.own=true/\xs[j]? = some a:=fun t a e=>by
  rw [List.getElem?_map] at e
  induction q:js[t]? with
  | none=>rw [q] at e; exact ap e
  | some j =>
   rw [q] at e
   have z:=List.all_eq_true.mp hj j (List.mem_of_getElem? q)
   apply bc;intro ng
   obtain ⟨u,z1,z2⟩:=(Option.any_eq_true _ _).mp z
   apply ng;clear ng
   have lx:j < xs.length:=by refine aa N.sz ?_; exact (List.getElem?_eq_some_iff.mp z1).1
   refine ⟨j,u,rfl,z1,z2,?_⟩
   simp only [Option.map_some,Option.some.injEq] at e
   refine aa (Eq.symm e) (aa (List.getElem?_eq_getElem lx) ?_)
   simp [List.getD,List.getElem?_eq_getElem lx]
 refine S.adds (fun b o e=>N.kp b o e) (by simp [hl]) ?_ fun t u a e e'=>?_
 ·refine List.pairwise_iff_getElem.mpr fun i j hi hj' hij e=>?_
  have ea:=List.getElem?_eq_getElem hi
  apply bc;intro ng
  obtain ⟨j1,o1,p1,p2,p3,p4⟩:=at' i _ ea
  obtain ⟨j2,o2,q1,q2,q3,q4⟩:=at' j _ ((List.getElem?_eq_getElem hj').trans (congrArg some e.symm))
  apply ng;clear ng
  have:=N.nd j1 j2 o1 o2 _ p2 q2 p3 q3 p4 q4
  subst this
  have:=(List.getElem?_inj (List.getElem?_eq_some_iff.mp p1).1 jn).mp (p1.trans q1.symm)
  (first | lia | omega)
 ·obtain ⟨j,o1,z1,z2,z3,z4⟩:=at' t a e'
  apply bc;intro ng
  obtain ⟨-,r2⟩:=eK hm N.sz (fun i o a e e'=>(N.ob i o a e e').1) re o
  obtain ⟨j',o',a',y1,y2,y3,y4,-⟩:=r2 t u e
  apply ng;clear ng
  rw [z1] at y1; cases y1
  rw [z4] at y3; cases y3
  refine ⟨?_,((N.ob j o1 a z2 z4).2 z3)⟩
  have pu:=List.all_eq_true.mp hp u (List.mem_of_getElem? e)
  cases u <;> first | exact y4 | cases pu
noncomputable def mu (h:Heap) (L:Addr) (ks:List Addr):Gr:=fun b=>if b=L\/b∈ks then none else h.get? b
noncomputable def AO.fzd:AO->AO
 | .lst vs=>.fz (.lst vs) | .tup vs=>.fz (.tup vs) | .ns fs=>.fz (.ns fs) | .inst C j=>.fz (.inst C j) | .il b es=>.fz (.il b es) | .pl vs=>.fz (.pl vs) | .rf b=>.fz (.rf b) | .dc ps=>.fz (.dc ps) | .fz o=>.fz o | _=>.dead
noncomputable def gX (keep:List Nat):Nat->List AO->List AO
 | _,[]=>[]
 | n,o::r=>(if keep.contains n && o.own then o else o.fzd)::gX keep (n + 1) r
theorem oN {keep:List Nat}:∀{l:List AO} {n i:Nat},(gX keep n l)[i]? = (l[i]?).map fun o=>if keep.contains (n + i) && o.own then o else o.fzd
 | [],_,i=>by simp [gX]
 | o::r,n,0=>by simp [gX]
 | o::r,n,i + 1=>by
  have:=oN (keep:=keep) (l:=r) (n:=n + 1) (i:=i)
  simp only [gX,List.getElem?_cons_succ,this,show n + 1 + i=n + (i + 1) by (first | lia | omega)]
noncomputable def bX (ob:List AO) (as:List Addr) (j:Nat):Option Addr:=match ob[j]? with | some o=>if o.own then as[j]? else none | none=>none
theorem BX {G':Gr} {a:Addr} {o:AO} (x:aC ρ O as h a o) (k:o.own=true->∀x,h.get? a=some x->G' a=some x) (k2:∀x,O.g a=some x->G' a=some x):aC ρ (OG w G') as h a o.fzd:=by
 induction o using AO.casesOn with
 | lst vs=>exact aN.keep (o:=.lst vs) .refl (k rfl) x
 | tup vs=>exact aN.keep (o:=.tup vs) .refl (k rfl) x
 | ns vs=>exact aN.keep (o:=.ns vs) .refl (k rfl) x
 | inst C j=>exact aN.keep (ρ:=ρ) (o:=.inst C j) .refl (k rfl) x
 | il b es=>exact aN.keep (as:=as) (o:=.il b es) .refl (k rfl) x
 | pl vs=>exact aN.keep (o:=.pl vs) .refl (k rfl) x
 | rf b=>exact aN.keep (ρ:=ρ) (as:=as) (o:=.rf b) .refl (k rfl) x
 | dc ps=>exact aN.keep (o:=.dc ps) .refl (k rfl) x
 | fz o=>exact aN.keep .refl k2 x
 | _=>trivial
set_option tactic.hygienic true
theorem SR.grow (S:SR w ρ O G env h s as) (keep:List Nat):SR w ρ (OG w (mu h env.locals (keep.filterMap (bX s.ob as)))) (mu h env.locals (keep.filterMap (bX s.ob as))) env h { s with ob:=gX keep 0 s.ob } as:=by
 have mk:∀a,a∈keep.filterMap (bX s.ob as)->∃(j:Nat) (o:AO),j∈keep/\s.ob[j]? = some o/\o.own=true/\as[j]? = some a:=fun a m=>by
  apply bc;intro ng
  obtain ⟨j,mj,e⟩:=List.mem_filterMap.mp m
  apply ng;clear ng
  unfold bX at e
  split at e
  ·rename_i o eo
   split at e
   ·rename_i ow; exact ⟨j,o,mj,eo,ow,e⟩
   ·exact ap e
  ·exact ap e
 have up:∀a o,G a=some o->mu h env.locals (keep.filterMap (bX s.ob as)) a=some o:=fun a o e=>by
  unfold mu
  rw [if_neg]
  ·exact S.kp a o e
  ·rintro (q | q)
   ·rw [q,S.fL] at e; exact ap e
   ·obtain ⟨j,o',_,e1,e2,e3⟩:=mk a q
    rw [((S.ob j o' a e1 e3).2 e2).2] at e; exact ap e
 have fr:∀(i:Nat) o a,s.ob[i]? = some o->as[i]? = some a->o.own=true->i ∉ keep->∀x,h.get? a=some x->mu h env.locals (keep.filterMap (bX s.ob as)) a=some x:=fun i o a e e' ow nk x ex=>by
  unfold mu
  rw [if_neg]
  ·exact ex
  ·rintro (q | q)
   ·exact ((S.ob i o a e e').2 ow).1 q
   ·obtain ⟨j,o',m,e1,e2,e3⟩:=mk a q
    rw [S.nd i j o o' a e e1 ow e2 e' e3] at nk
    exact nk m
 have get:∀(i:Nat) o,(gX keep 0 s.ob)[i]? = some o->∃o0,s.ob[i]? = some o0/\o=if keep.contains i && o0.own then o0 else o0.fzd:=fun i o e=>by
  rw [oN,Nat.zero_add] at e
  apply bc;intro ng
  obtain ⟨o0,e1,e2⟩:=Option.map_eq_some_iff.mp e
  apply ng;clear ng
  exact ⟨o0,e1,e2.symm⟩
 have fzo:∀o:AO,o.fzd.own=false:=fun o=>by induction o using AO.casesOn <;> rfl
 apply bc;intro ng
 obtain ⟨hb,W,kb⟩:=S.bs
 apply ng;clear ng
 have lf:∀{l:List AO} {n:Nat},(gX keep n l).length=l.length:=fun {l}=>by
  induction l with | nil=>exact rfl | cons o r ih=>intro n; exact congrArg (· + 1) ih
 refine ⟨⟨hb,W,fun a o e=>up a o (kb a o e)⟩,fun a o e=>?_,fun a o e=>e,?_,S.eg,S.eb,S.ek,S.lc,S.cc,by show _=(gX keep 0 s.ob).length; exact aa lf (aa S.sz rfl),fun i o a e e'=>?_,fun i j o o' a e1 e2 w1 w2 e3 e4=>?_,S.pc⟩
 ·unfold mu at e; split at e
  ·exact ap e
  ·exact e
 ·unfold mu; exact aa (if_pos (.inl rfl)) rfl
 ·obtain ⟨o0,e0,rfl⟩:=get i o e
  apply bc;intro ng
  obtain ⟨x,y⟩:=S.ob i o0 a e0 e'
  apply ng;clear ng
  by_cases c:keep.contains i=true/\o0.own=true
  ·refine aa (if_pos (by rw [c.1,c.2]; rfl)) ?_
   refine ⟨by cases o0 <;> first | exact x | (cases c.2),fun zw=>⟨(y c.2).1,?_⟩⟩
   refine if_pos (.inr (List.mem_filterMap.mpr ⟨i,by simpa using c.1,?_⟩))
   unfold bX; refine aa e0 ?_; dsimp only; refine aa (if_pos c.2) ?_; exact e'
  ·refine aa (if_neg (by simpa using c)) ?_
   refine ⟨?_,fun z=>by rw [fzo] at z; exact bG z⟩
   exact BX x (fun ow=>fr i o0 a e0 e' ow fun m=>c ⟨by simpa using m,ow⟩) fun z ez=>up a z (S.og a z ez)
 ·obtain ⟨o0,f1,rfl⟩:=get i o e1
  apply bc;intro ng
  obtain ⟨o0',f2,rfl⟩:=get j o' e2
  apply ng;clear ng
  have own:∀(i:Nat) (o:AO),(if keep.contains i && o.own then o else o.fzd).own=true->o.own=true:=fun i o z=>by
   split at z
   ·exact z
   ·rw [fzo] at z; exact bG z
  exact S.nd i j o0 o0' a f1 f2 (own _ _ w1) (own _ _ w2) e3 e4
set_option tactic.hygienic false
end
noncomputable def wg (j k:Nat) (m e:IE):AV:=.int (.fn (100 + j) (.c k) m e)
noncomputable def GM (i k n:Nat) (m e:IE):List AO:=[.tup [wg 16 k m e,wg 17 k m e],
 .ns [(S' "ratio",.loc n),(S' "order",wg 15 k m e),(S' "sign",wg 14 k m e),(S' "shift",.int (.c 0)),(S' "items",.loc i),(S' "depth",wg 1 k m e),(S' "height",wg 0 k m e),(S' "width",wg 13 k m e),(S' "kind",.int (.c 2))],
 .inst 389 (n + 1),.tup [wg 18 k m e,wg 19 k m e],.tup [.loc (n + 2),.loc (n + 3)]]
noncomputable def Mq (i n:Nat):Nat->Option Nat | 0=>some n | 1=>some i | 2=>some (n + 1) | 3=>some (n + 2) | 4=>some (n + 3) | 5=>some (n + 4) | _=>none
noncomputable def qn (k:Nat) (m e:IE):List Ob1:=[.ie (.v 16) (.fn 116 (.c k) m e),.ie (.v 17) (.fn 117 (.c k) m e),.ie (.v 15) (.fn 115 (.c k) m e),.ie (.v 14) (.fn 114 (.c k) m e),.ie (.c 0) (.c 0),.ie (.v 1) (.fn 101 (.c k) m e),.ie (.v 0) (.fn 100 (.c k) m e),
 .ie (.v 13) (.fn 113 (.c k) m e),.ie (.c 2) (.c 2),.ie (.v 18) (.fn 118 (.c k) m e),.ie (.v 19) (.fn 119 (.c k) m e)]
theorem z5 (q i k n:Nat) (m e:IE):cE (Mq i n) (xE q) [0,2,3,4,5] (GM i k n m e)=some (qn k m e):=by
 refine f6 rfl (l1:=(qn k m e).take 2) rfl (f6 rfl (l1:=((qn k m e).drop 2).take 7) ?_ (f6 rfl (l1:=[]) (Fb rfl) (f6 rfl (l1:=(qn k m e).drop 9) rfl (f6 rfl (l1:=[]) ?_ (l2:=[]) rfl))))
 ·exact iR (l1:=[]) (oi rfl) (iR (l1:=[_]) rfl (iR (l1:=[_]) rfl (iR (l1:=[_]) rfl (iR (l1:=[]) (oi rfl) rfl))))
 ·exact iR (l1:=[]) (oi rfl) (iR (l1:=[]) (oi rfl) (l2:=[]) rfl)
noncomputable def D0 (cs:List Nat):Hk:=fun a args ob=>((aZ args).bind AV.l?).bind fun i=>((ob[i]?).bind AO.rf?).bind fun k=>if a == 673 && cs.contains k then some ([],.loc (ob.length + 4),ob++GM i k ob.length (.c 1) (.c 0)) else none
noncomputable def ML (l:List AV):Option (AV×AV×AV):=match l with | []=>none | a::r=>(eA r).map fun p=>(a,p)
noncomputable def ET (cs:List Nat):Hk:=fun a args ob=>(ML args).bind fun p=>p.1.l?.bind fun i=>(aq p.2.1.i? p.2.2.i?).bind fun m=>((ob[i]?).bind AO.rf?).bind fun k =>
 if a == 673 && cs.contains k then some ([.le (.c 0) m.1,.le m.1 (.c 1),.le (.c (-100000000)) m.2,.le m.2 (.c 100000000)],.loc (ob.length + 4),ob++GM i k ob.length m.1 m.2) else none
noncomputable def LZ (cs:List Nat):Hk:=fun a args ob=>match D0 cs a args ob with | some r=>some r | none=>ET cs a args ob
noncomputable def KH (k:Nat) (b:IE):Option IE:=match b.v? with | some j=>if Nat.ble 2 j && Nat.ble j 5 then some (.fn (118 + j) (.c k) (.c 0) (.c 0)) else none | none=>b.c?.map .c
noncomputable def Nn (k:Nat) (o:Ob1):Option CE:=o.ie?.bind fun p=>(KH k p.2).map (.eq p.1)
noncomputable def wZ (k:Nat):List Ob1->Option (List CE) | []=>some [] | o::r=>(Nn k o).bind fun c=>(wZ k r).map (c :: ·)
noncomputable def Mi:List AO:=[.tup [.int (.v 4),.int (.v 5)],.ns [(S' "ratio",.loc 6),(S' "order",.int (.v 3)),(S' "sign",.int (.v 2)),(S' "shift",.any),(S' "items",.loc 3),(S' "depth",.any),(S' "height",.any),(S' "width",.any),(S' "kind",.int (.c 2))],.inst 389 7]
noncomputable def Gu (n m i:Nat):Option Nat:=if i=n then some 6 else if i=n + 1 then some 7 else if i=m then some 3 else none
noncomputable def MF (cs:List Nat):Hk:=fun a args ob=>((aZ args).bind AV.l?).bind fun i=>((((ob[i - 1]?).bind AO.ns?).bind (·.lookup (S' "items"))).bind AV.l?).bind fun m=>((ob[m]?).bind AO.rf?).bind fun k=>(cE (Gu (i - 2) m) ob [i - 2,i - 1,i] Mi).bind fun l=>(wZ k l).bind fun c =>
 if a == 644 && (cs.contains k && (Nat.ble 2 i && (decide (m≠i - 2) && decide (m≠i - 1)))) then some (c,.loc ob.length,ob++[.il (200 + k) []]) else none
structure LawE (w:World) (g:Gr) (F:List Addr) (ρ:Rho) (cs:List Nat) (N:Nat->List Nd) (B:Nat->Bx):Prop where
 fo:aT w g F
 it:∀k∈cs,All2 (fun V nd=>∃x,V = .ref x/\bP g F x nd/\nd.ok) ((ρ.l k).map ak) (N k)
 fit:∀k∈cs,(ad (N k)).fit 20
 len:∀k∈cs,(N k).length<=800
 hp:∀k∈cs,∀j,j < 20->∀m e,ρ.f (100 + j) k m e=(mA (ad (N k)) (N k).isEmpty m e).getD j 0
 bx:∀k∈cs,ρ.f 120 k 0 0=(B k).s/\ρ.f 121 k 0 0=(B k).o/\ρ.f 122 k 0 0=(B k).p/\ρ.f 123 k 0 0=(B k).q/\(B k).ok
 pl:∀k∈cs,ρ.l (200 + k)=(bw (B k) (N k)).out
section
variable {w:World} {ρ:Rho} {g:Gr} {F:List Addr} {cs:List Nat} {N:Nat->List Nd} {B:Nat->Bx}
theorem LawE.items (L:LawE w g F ρ cs N B) {k:Nat} (hk:k∈cs) {g':Gr} (le:∀a o,g a=some o->g' a=some o) {a:Addr} (l:At g' a (.lst ((ρ.l k).map ak))):Items g' F a ((ρ.l k).map ak) (N k) :=
 ⟨l,(L.it k hk).mono fun zw zw ⟨x,e,n,o⟩=>⟨x,e,n.le le,o⟩⟩
theorem oU (L:LawE w g F ρ cs N B) {k:Nat} (hk:k∈cs) {m e:IE}:bD (gu (mA (ad (N k)) (N k).isEmpty (m.den ρ) (e.den ρ))) ρ (qn k m e):=by
 have z:=fun j (hj:j < 20)=>(L.hp k hk j hj (m.den ρ) (e.den ρ)).symm
 exact ⟨z 16 (by decide),z 17 (by decide),z 15 (by decide),z 14 (by decide),rfl,z 1 (by decide),z 0 (by decide),z 13 (by decide),rfl,z 18 (by decide),z 19 (by decide)⟩
theorem oY {O O':Opq} {G:Gr} {h h':Heap} {ob:List AO} {pc:List (CE×Bool)} {as xs:List Addr} {i k q:Nat} {m e:IE} {a:Addr} {V:Value} {L0:List Int} (S:Co w ρ O G h ob pc as) (C:Co w (gu L0) O' h.get? h' (xE q) [] xs) (e1:xs[1]? = some a) (e2:as[i]? = some a)
  (dv:Dn (gu L0) xs (.loc 5) V) (o:bD (gu L0) ρ (qn k m e)):∃as',Pre as as'/\Co w ρ O G h' (ob++GM i k ob.length m e) pc as'/\Dn ρ as' (.loc (ob.length + 4)) V:=by
 have hl:xs.length=6:=C.sz
 have hm:Mp (Mq i ob.length) xs (as++[0,2,3,4,5].map fun j=>xs.getD j 0):=by
  intro i0 j0 ej x ex
  have nw:∀t,([0,2,3,4,5].map fun j=>xs.getD j 0)[t]? = some x->(as++[0,2,3,4,5].map fun j=>xs.getD j 0)[ob.length + t]? = some x:=fun t z=>by
   rw [List.getElem?_append_right (by rw [S.sz]; exact Nat.le_add_right _ _),S.sz,Nat.add_sub_cancel_left]; exact z
  match i0,ej with
  | 0,ej=>exact aG ej▸nw 0 (congrArg some (bE ex))
  | 1,ej=>exact aG ej▸Pre.get ⟨_,rfl⟩ (e2.trans (e1.symm.trans ex))
  | 2,ej=>exact aG ej▸nw 1 (congrArg some (bE ex))
  | 3,ej=>exact aG ej▸nw 2 (congrArg some (bE ex))
  | 4,ej=>exact aG ej▸nw 3 (congrArg some (bE ex))
  | 5,ej=>exact aG ej▸nw 4 (congrArg some (bE ex))
  | n + 6,ej=>exact ap ej
 refine ⟨_,⟨_,rfl⟩,S.link C (js:=[0,2,3,4,5]) (by decide) rfl rfl hm (z5 q i k ob.length m e) rfl o,?_⟩
 exact bT (ρ:=gu L0) (v:=.loc 5) (l:=[]) hm (nA rfl) trivial dv
theorem nr {k:Nat} (h:cs.contains k=true):k∈cs:=List.contains_iff_mem.mp h
theorem LawE.lk (L:LawE w g F ρ cs N B) {G:Gr} {h:Heap} {ob:List AO} {pc:List (CE×Bool)} {as:List Addr} (S:Co w ρ (OG w g) G h ob pc as) {i k:Nat} {a:Addr} (e1:(ob[i]?).bind AO.rf? = some k) (ea:as[i]? = some a) (hk:k∈cs):Items h.get? F a ((ρ.l k).map ak) (N k):=by
 apply bc;intro ng
 obtain ⟨o,e2,e3⟩:=az e1
 rw [kL e3] at e2
 exact ng (L.items hk (fun a o z=>S.kp _ _ (S.og _ _ z)) (At.pl (S.ob i _ a e2 ea).1))
theorem EK {l:List AV} {p:AV×AV×AV} (h:ML l=some p):l = [p.1,p.2.1,p.2.2]:=by
 induction l using List.casesOn with
 | nil=>exact ap h
 | cons a r =>
  apply bc;intro ng
  obtain ⟨q,e1,e2⟩:=Option.map_eq_some_iff.mp h
  rw [ch e1,<- e2] at ng
  exact ng rfl
theorem yq (L:LawE w g F ρ cs N B):ay w ρ (OG w g) (D0 cs) 81:=by
 intro f args ob ces v ob' e hcs A gs dr os G h pc n as Us Q Er R S da q
 apply bc;intro ng
 obtain ⟨i,ei,e⟩:=az e
 obtain ⟨u,eu,ei⟩:=az ei
 obtain ⟨k,e1,e⟩:=az e
 obtain ⟨hc,e⟩:=cS e
 cases e
 rw [ba eu,bM ei] at da
 obtain ⟨b,hU,x,ex,hx⟩:=da.one
 have hk:=nr (au hc)
 rw [hU,hx,aD (ag hc)] at ng
 exact ng (An S.wd (fun zw zw e=>e) (L.fo.le fun a o z=>S.kp _ _ (S.og _ _ z)) (L.lk S e1 ex hk) (tv (L.fit k hk) (by decide) (.inr rfl) (by decide)) R fun V h' n' xs q0 C e1 dv =>
  let ⟨as',p,M,d⟩:=oY (m:=.c 1) (e:=.c 0) S C e1 ex dv (oU (m:=.c 1) (e:=.c 0) L hk); q V h' as' n' M p d)
theorem sq {a:Int} (h:0<=a) (k:a<=1):a=0\/a=1 :=
 (Int.lt_or_le a 1).elim (fun l=>.inl (Int.le_antisymm (Int.le_of_lt_add_one l) h)) fun l=>.inr (Int.le_antisymm k l)
theorem yK (L:LawE w g F ρ cs N B):ay w ρ (OG w g) (ET cs) 81:=by
 intro f args ob ces v ob' e hcs A gs dr os G h pc n as Us Q Er R S da q
 apply bc;intro ng
 obtain ⟨p,ep,e⟩:=az e
 obtain ⟨i,ei,e⟩:=az e
 obtain ⟨m,em,e⟩:=az e
 obtain ⟨k,e1,e⟩:=az e
 obtain ⟨hc,e⟩:=cS e
 cases e
 rw [EK ep,bM ei,cO (ah em).1,cO (ah em).2] at da
 obtain ⟨b,r,hU,⟨x,ex,hx⟩,da⟩:=da.c
 obtain ⟨b2,b3,hr,⟨t2,h2⟩,t3,h3⟩:=da.two
 have hk:=nr (au hc)
 rw [hU,hr,hx,h2,h3,aD (ag hc)] at ng
 exact ng (z8 S.wd (fun zw zw e=>e) (L.fo.le fun a o z=>S.kp _ _ (S.og _ _ z)) (L.lk S e1 ex hk) (tv (L.fit k hk) (by decide) (sq (hcs _ (.head _)) (hcs _ (.tail _ (.head _)))) ⟨hcs _ (.tail _ (.tail _ (.head _))),hcs _ (.tail _ (.tail _ (.tail _ (.head _))))⟩) R fun V h' n' xs q0 C e1 dv =>
  let ⟨as',p,M,d⟩:=oY (m:=m.1) (e:=m.2) S C e1 ex dv (oU (m:=m.1) (e:=m.2) L hk); q V h' as' n' M p d)
theorem sX (L:LawE w g F ρ cs N B):ay w ρ (OG w g) (LZ cs) 81:=ay.or (yq L) (yK L)
theorem zV {k:Nat} {ρ':Rho} (h:∀j,2<=j->j<=5->ρ.f (118 + j) k 0 0=ρ'.v j) {b e:IE} (x:KH k b=some e):e.den ρ=b.den ρ':=by
 unfold KH at x
 induction q:b.v? with
 | some j =>
  rw [q] at x
  have x:=cS x
  refine aa (Eq.symm (aG x.2)) (aa (dS q) ?_)
  exact h j (Nat.le_of_ble_eq_true (ag x.1)) (Nat.le_of_ble_eq_true (au x.1))
 | none =>
  rw [q] at x
  apply bc;intro ng
  obtain ⟨n,e1,e2⟩:=Option.map_eq_some_iff.mp x
  rw [<- e2,bO e1] at ng
  exact ng rfl
theorem vS {k:Nat} {ρ':Rho} (h:∀j,2<=j->j<=5->ρ.f (118 + j) k 0 0=ρ'.v j) {l:List Ob1}:∀{c:List CE},wZ k l=some c->(∀x∈c,x.den ρ)->bD ρ ρ' l:=by
 induction l with
 | nil=>intro _ _ _; trivial
 | cons o r ih =>
  intro c e hc
  apply bc;intro ng
  obtain ⟨c1,e1,e⟩:=az e
  obtain ⟨c2,e2,e3⟩:=Option.map_eq_some_iff.mp e
  obtain ⟨p,e4,e5⟩:=az e1
  obtain ⟨b',e6,e7⟩:=Option.map_eq_some_iff.mp e5
  rw [<- e3] at hc
  have z:=hc c1 (.head _)
  rw [<- e7] at z
  refine ng (bD.cons.mpr ⟨?_,ih e2 fun x m=>hc x (.tail _ m)⟩)
  refine aa (rQ e4) ?_
  exact (show p.1.den ρ=b'.den ρ from z).trans (zV h e6)
theorem E3 {O:Opq} {G:Gr} {h:Heap} {ob:List AO} {pc:List (CE×Bool)} {as:List Addr} {i m k:Nat} {x am:Addr} {l:List Ob1} {c:List CE} (S:Co w ρ O G h ob pc as) (h2:2<=i) (ex:as[i]? = some x) (eM:as[m]? = some am) (Bk:Bx) (b1:ρ.f 120 k 0 0=Bk.s) (b2:ρ.f 121 k 0 0=Bk.o) (b3:ρ.f 122 k 0 0=Bk.p) (b4:ρ.f 123 k 0 0=Bk.q)
  (e3:cE (Gu (i - 2) m) ob [i - 2,i - 1,i] Mi=some l) (e4:wZ k l=some c) (hcs:∀x∈c,x.den ρ):Ao h.get? am x Bk:=by
 have li:i < as.length:=(List.getElem?_eq_some_iff.mp ex).1
 have l1:i - 1 < as.length:=Nat.lt_of_le_of_lt (Nat.sub_le _ _) li
 have l2:i - 2 < as.length:=Nat.lt_of_le_of_lt (Nat.sub_le _ _) li
 have s1:i - 2 + 1=i - 1:=by omega
 refine ⟨as[i - 2],as[i - 1],fun as' ρ' a3 a6 a7 v2 v3 v4 v5=>?_⟩
 have hm:Mp (Gu (i - 2) m) as as':=by
  intro i0 j0 ej y ey
  unfold Gu at ej
  by_cases z:i0=i - 2
  ·rw [if_pos z] at ej
   rw [z,List.getElem?_eq_getElem l2] at ey
   exact aG ej▸aG ey▸a6
  ·rw [if_neg z] at ej
   by_cases z1:i0=i - 2 + 1
   ·rw [if_pos z1] at ej
    rw [z1,s1,List.getElem?_eq_getElem l1] at ey
    exact aG ej▸aG ey▸a7
   ·rw [if_neg z1] at ej
    have z2:=DI ej
    rw [z2.1] at ey
    exact z2.2▸(a3.trans (eM.symm.trans ey))
 apply bc;intro ng
 obtain ⟨-,r2⟩:=eK hm S.sz (fun i o a e e'=>(S.ob i o a e e').1) e3 (vS (ρ':=ρ') (fun j h1 h2=>match j,h1,h2 with
  | 2,_,_=>b1.trans v2.symm | 3,_,_=>b2.trans v3.symm | 4,_,_=>b3.trans v4.symm | 5,_,_=>b4.trans v5.symm | j + 6,_,h=>absurd h (by omega)) e4 hcs)
 obtain ⟨j,o,a,y1,y2,y3,y4,-⟩:=r2 0 _ rfl
 rw [<- aG y1,List.getElem?_eq_getElem l2] at y3
 rw [<- aG y3] at y4
 obtain ⟨j,o,a,y1,y2,y3,y5,-⟩:=r2 1 _ rfl
 rw [<- aG y1,List.getElem?_eq_getElem l1] at y3
 rw [<- aG y3] at y5
 obtain ⟨j,o,a,y1,y2,y3,y6,-⟩:=r2 2 _ rfl
 rw [<- aG y1,ex] at y3
 rw [<- aG y3] at y6
 exact ng ⟨y4,y5,y6⟩
theorem rP (L:LawE w g F ρ cs N B):ay w ρ (OG w g) (MF cs) 41:=by
 intro f args ob ces v ob' e hcs A gs dr os G h pc n as Us Q Er R S da q
 have kg:∀a o,g a=some o->h.get? a=some o:=fun a o z=>S.kp _ _ (S.og _ _ z)
 apply bc;intro ng
 obtain ⟨i,ei,e⟩:=az e
 obtain ⟨u,eu,ei⟩:=az ei
 obtain ⟨m,e1,e⟩:=az e
 obtain ⟨k,e2,e⟩:=az e
 obtain ⟨l,e3,e⟩:=az e
 obtain ⟨c,e4,e⟩:=az e
 obtain ⟨hc,e⟩:=cS e
 cases e
 rw [ba eu,bM ei] at da
 obtain ⟨b,hU,x,ex,hx⟩:=da.one
 have hk:=nr (ag (au hc))
 obtain ⟨b1,b2,b3,b4,bo⟩:=L.bx k hk
 obtain ⟨om,em,er⟩:=az e2
 have lm:m < as.length:=by refine aa S.sz ?_; exact (List.getElem?_eq_some_iff.mp em).1
 have eM:as[m]? = some as[m]:=List.getElem?_eq_getElem lm
 rw [hU,hx,aD (ag hc)] at ng
 refine ng (o4 S.wd (fun zw zw e=>e) (L.fo.le kg) (L.lk S e2 eM hk) (E3 S (Nat.le_of_ble_eq_true (ag (au (au hc)))) ex eM (B k) b1 b2 b3 b4 e3 e4 hcs) bo (L.len k hk) R fun V h' n' xs C dv=>?_); clear ng
 have hm:Mp (fun z=>if z=5 then some ob.length else none) xs (as++[5].map fun j=>xs.getD j 0):=by
  intro i0 j0 ej y ey
  have z2:=DI ej
  rw [z2.1] at ey
  rw [<- z2.2,List.getElem?_append_right (by rw [S.sz]; exact Nat.le_refl _),S.sz,Nat.sub_self]
  exact congrArg some (bE ey)
 refine q V h' _ n' (S.link C (js:=[5]) (us:=[.il (200 + k) []]) (ls:=[.il 0 [] (200 + k) []]) (by decide) rfl rfl hm (by kernel_rfl) rfl ?_) ⟨_,rfl⟩ (bT (ρ:=cb (B k) (bw (B k) (N k)) []) (v:=.loc 5) (l:=[]) hm (nA rfl) trivial dv)
 exact congrArg (·++[]) (L.pl k hk).symm
end
noncomputable def strip (l:List Addr) (G:Gr):Gr:=fun b=>if b∈l then none else G b
def jE (l:List Addr) (L:Addr) (ob:List AO) (as:List Addr):Prop:=∀a∈l,a≠L/\∀(i:Nat) o,ob[i]? = some o->o.own=true->as[i]?≠some a
def be (G G':Gr):Prop:=∀a o,G a=some o->G' a=some o
theorem be.add {G:Gr} {h:Heap} {l:List Addr} (f:∀a∈l,G a=none):be G (G.add h l):=fun a o e=>by
 unfold Gr.add
 refine aa (if_neg fun m=>by rw [f a m] at e; cases e) ?_; exact e
theorem be.strip {G G':Gr} {l:List Addr} (f:∀a∈l,G a=none) (k:be G G'):be G (Mine.strip l G'):=fun a o e=>by
 unfold Mine.strip
 rw [if_neg fun m=>by rw [f a m] at e; cases e]; exact k a o e
section
variable {w:World} {ρ:Rho} {O:Opq} {G G2:Gr} {env:Env} {h h':Heap} {s:St} {as:List Addr} {l:List Addr}
theorem SR.off (S:SR w ρ O G env h s as) (f:∀a∈l,G a=none) (o:jE l env.locals s.ob as) (k:∀b x,b ∉ l->h.get? b=some x->h'.get? b=some x):SR w ρ O G env h' s as:=by
 apply bc;intro ng
 obtain ⟨fn,⟨oL,es,ep,l2,l3⟩,l1⟩:=S.lc
 apply ng;clear ng
 refine ⟨S.bs,fun a x e=>k a x (fun m=>by rw [f a m] at e; exact ap e) (S.kp a x e),S.og,S.fL,S.eg,S.eb,S.ek,⟨fn,⟨oL,es,ep,k _ _ (fun m=>(o _ m).1 rfl) l2,l3⟩,l1⟩,S.cc,S.sz,fun i x a e e'=>?_,S.nd,S.pc⟩
 apply bc;intro ng
 obtain ⟨z1,z2⟩:=S.ob i x a e e'
 apply ng;clear ng
 exact ⟨z1.keep .refl fun ow y ey=>k a y (fun m=>(o a m).2 i x e ow e') ey,z2⟩
theorem SR.pin (S:SR w ρ O G env h s as) (o:jE l env.locals s.ob as) (f:∀a∈l,G a=none):SR w ρ O (G.add h l) env h s as:=by
 have le:=be.add (h:=h) f
 obtain ⟨hb,W,kb⟩:=S.bs
 refine ⟨⟨hb,W,fun a x e=>le a x (kb a x e)⟩,fun a x e=>?_,fun a x e=>le a x (S.og a x e),?_,S.eg,S.eb,S.ek,S.lc,S.cc,S.sz,fun i x a e e'=>⟨(S.ob i x a e e').1,fun ow=>⟨((S.ob i x a e e').2 ow).1,?_⟩⟩,S.nd,S.pc⟩
 ·unfold Gr.add at e; split at e
  ·exact e
  ·exact S.kp a x e
 ·unfold Gr.add
  rw [if_neg fun m=>(o _ m).1 rfl]; exact S.fL
 ·unfold Gr.add
  rw [if_neg fun m=>(o _ m).2 i x e ow e']; exact ((S.ob i x a e e').2 ow).2
theorem SR.unpin {G0:Gr} (S:SR w ρ O G2 env h s as) (b0:∃hb,Wd w hb/\∀a o,hb.get? a=some o->G0 a=some o) (og:be O.g G0) (f:∀a∈l,G0 a=none) (le:be G0 G2) (ex:∀a∈l,∃o,G2 a=some o)
  (k:∀b x,b ∉ l->h.get? b=some x->h'.get? b=some x):SR w ρ O (strip l G2) env h' s as/\jE l env.locals s.ob as/\be G0 (strip l G2)/\∀a∈l,strip l G2 a=none:=by
 have le':=be.strip f le
 have o:jE l env.locals s.ob as:=fun a m=>by
  apply bc;intro ng
  obtain ⟨x,ex⟩:=ex a m
  apply ng;clear ng
  refine ⟨fun q=>by rw [q,S.fL] at ex; (exact ap ex),fun i y e ow e'=>?_⟩
  rw [((S.ob i y a e e').2 ow).2] at ex; exact ap ex
 have sn:∀a,G2 a=none->strip l G2 a=none:=fun a e=>by unfold strip; split; rfl; exact e
 have f2:∀a∈l,strip l G2 a=none:=fun a m=>by unfold strip; exact aa (if_pos m) rfl
 apply bc;intro ng
 obtain ⟨hb,W,kb⟩:=b0
 apply ng;clear ng
 refine ⟨SR.off ⟨⟨hb,W,fun a x e=>le' a x (kb a x e)⟩,fun a x e=>?_,fun a x e=>le' a x (og a x e),sn _ S.fL,S.eg,S.eb,S.ek,S.lc,S.cc,S.sz,fun i x a e e'=>⟨(S.ob i x a e e').1,fun ow=>⟨((S.ob i x a e e').2 ow).1,sn _ ((S.ob i x a e e').2 ow).2⟩⟩,S.nd,S.pc⟩ f2 o k,o,le',f2⟩
 unfold strip at e; split at e
 ·exact ap e
 ·exact S.kp a x e
noncomputable def dB (h:Heap) (L:Addr) (ob:List AO) (as:List Addr):Gr:=fun b=>if b=L\/b∈(List.range ob.length).filterMap (bX ob as) then none else h.get? b
set_option tactic.hygienic true
theorem dA {ob:List AO} {as:List Addr} {b:Addr}:b∈(List.range ob.length).filterMap (bX ob as)↔∃(i:Nat) (o:AO),ob[i]? = some o/\o.own=true/\as[i]? = some b:=by
 rw [List.mem_filterMap]
 constructor
 ·rintro zq11
  apply bc;intro ng
  obtain ⟨i,_,e⟩:=zq11
  apply ng;clear ng
  unfold bX at e
  split at e
  ·rename_i o eo
   split at e
   ·rename_i ow; exact ⟨i,o,eo,ow,e⟩
   ·exact ap e
  ·exact ap e
 ·rintro zq12
  apply bc;intro ng
  obtain ⟨i,o,eo,ow,e⟩:=zq12
  apply ng;clear ng
  refine ⟨i,List.mem_range.mpr (List.getElem?_eq_some_iff.mp eo).1,?_⟩
  unfold bX; refine aa eo ?_; dsimp only; refine aa (if_pos ow) ?_; exact e
set_option tactic.hygienic false
theorem SR.wide (S:SR w ρ O G env h s as):SR w ρ O (dB h env.locals s.ob as) env h s as/\be G (dB h env.locals s.ob as):=by
 have up:be G (dB h env.locals s.ob as):=fun a o e=>by
  unfold dB
  rw [if_neg]
  ·exact S.kp a o e
  ·rintro (q | q)
   ·rw [q,S.fL] at e; exact ap e
   ·obtain ⟨i,x,e1,e2,e3⟩:=dA.mp q
    rw [((S.ob i x a e1 e3).2 e2).2] at e; exact ap e
 obtain ⟨hb,W,kb⟩:=S.bs
 refine ⟨⟨⟨hb,W,fun a o e=>up a o (kb a o e)⟩,fun a o e=>?_,fun a o e=>up a o (S.og a o e),?_,S.eg,S.eb,S.ek,S.lc,S.cc,S.sz,fun i o a e e'=>⟨(S.ob i o a e e').1,fun ow=>⟨((S.ob i o a e e').2 ow).1,?_⟩⟩,S.nd,S.pc⟩,up⟩
 ·unfold dB at e; split at e
  ·exact ap e
  ·exact e
 ·unfold dB; exact aa (if_pos (.inl rfl)) rfl
 ·unfold dB; exact aa (if_pos (.inr (dA.mpr ⟨i,o,e,ow,e'⟩))) rfl
theorem SR.take (S:SR w ρ O G env h s as) {a:Addr} {ao:AO} (f:G a=none) (o:jE [a] env.locals s.ob as) (y:aC ρ O (as++[a]) h a ao):SR w ρ O G env h { s with ob:=s.ob++[ao] } (as++[a]):=by
 apply bc;intro ng
 obtain ⟨o1,o2⟩:=o a (.head _)
 obtain ⟨fn,N,l1⟩:=S.lc
 apply ng;clear ng
 refine ⟨S.bs,S.kp,S.og,S.fL,S.eg,S.eb,S.ek,⟨fn,N,fun x v e=>let ⟨V,z1,z2⟩:=l1 x v e; ⟨V,z1,z2.pre ⟨_,rfl⟩⟩⟩,fun x i e=>let ⟨b,z1,z2⟩:=S.cc x i e; ⟨b,Pre.get ⟨_,rfl⟩ z1,z2⟩,by simp [S.sz],fun i x b e e'=>?_,fun i j x x' b e1 e2 w1 w2 e3 e4=>?_,S.pc⟩
 ·rcases bR S.sz i x b e e' with ⟨f1,f2⟩ | ⟨f1,rfl,rfl⟩
  ·obtain ⟨z1,z2⟩:=S.ob i x b f1 f2
   exact ⟨z1.keep ⟨_,rfl⟩ (fun zw x e=>e),z2⟩
  ·exact ⟨y,fun zw=>⟨o1,f⟩⟩
 ·rcases bR S.sz i x b e1 e3 with ⟨f1,f2⟩ | ⟨f1,rfl,rfl⟩
  ·rcases bR S.sz j x' b e2 e4 with ⟨g1,g2⟩ | ⟨g1,rfl,rfl⟩
   ·exact S.nd i j x x' b f1 g1 w1 w2 f2 g2
   ·exact absurd f2 (o2 i x f1 w1)
  ·rcases bR S.sz j x' _ e2 e4 with ⟨g1,g2⟩ | ⟨g1,rfl,-⟩
   ·exact absurd g2 (o2 j x' g1 w2)
   ·(first | lia | omega)
end
structure Nxt (w:World) (G:Gr) (it:Addr) (N:Nat) (J:Nat->Heap->Prop) (P:Nat->Value->Prop):Prop where
 item:∀{i:Nat} {A:Around} {E:Value->Shared->Prop} {st:Shared} {Q:Option Value->Shared->Prop},i < N->J i st.heap->be G st.heap.get?->(∀h' V n',J (i + 1) h'->Heap.SameBut it st.heap h'->P i V->Q (some V) ⟨h',st.gens,st.drawn,n',st.os⟩)->wpAny (model pr w) A (pyNext (.ref it)) Q E st
 stop:∀{A:Around} {E:Value->Shared->Prop} {st:Shared} {Q:Option Value->Shared->Prop},A.handled=none->J N st.heap->be G st.heap.get?->(∀h',Heap.ExtBut it st.heap h'->Q none { st with heap:=h' })->wpAny (model pr w) A (pyNext (.ref it)) Q E st
 self:∀{i:Nat} {A:Around} {E:Value->Shared->Prop} {st:Shared} {Q:Value->Shared->Prop},J i st.heap->Q (.ref it) st->wpAny (model pr w) A (pyIter (.ref it)) Q E st
 keep:∀{i:Nat} {h h':Heap},J i h->(∀o,h.get? it=some o->h'.get? it=some o)->J i h'
 ex:∀{i:Nat} {h:Heap},J i h->∃o,h.get? it=some o/\∀vs m,o.data≠.seq vs m
theorem Nxt.list {w:World} {G:Gr} {it l:Addr} {Vs:List Value} (L:At G l (.lst Vs)):Nxt w G it Vs.length (fun i h=>h.IsListIter it l i) fun i V=>Vs[i]? = some V:=by
 have hl:∀{h:Heap},be G h.get?->h.IsList l Vs.toArray:=fun k=>L.le (k l)
 refine ⟨fun {i A E st Q} hi j k q=>?_,fun {A E st Q} hh j k q=>?_,fun j q=>wpAny_pyIter_listiter j q,fun j k=>?_,fun j=>?_⟩
 ·exact wpAny_pyNext_list_item j (hl k) (x:=Vs[i]) (by simp [hi]) fun h' j' hs=>q h' _ st.toks j' hs (List.getElem?_eq_getElem hi)
 ·exact wpAny_pyNext_list_end hh j (hl k) (by simp) q
 ·obtain ⟨o,e,z⟩:=j; exact ⟨o,k o e,z⟩
 ·obtain ⟨o,e,_,z⟩:=j; exact ⟨o,e,fun vs m q=>by rw [z] at q; cases q⟩
theorem Nxt.range {w:World} {G:Gr} {it:Addr} {N:Nat}:Nxt w G it N (fun i h=>IsRangeIter h it i (N - i) 1) fun zw zw=>True:=by
 refine ⟨fun {i A E st Q} hi j k q=>?_,fun {A E st Q} hh j k q=>?_,fun j q=>wpAny_pyIter_rangeiter j q,fun j k=>k _ j,fun j=>⟨_,j,fun vs m q=>by cases q⟩⟩
 ·exact wpAny_pyNext_range_item j (by omega) fun h' j' hs=>q h' _ _ (by
   have e:((i:Int) + 1)=((i + 1:Nat):Int):=by omega
   have e2:((N:Int) - i - 1)=(N:Int) - ((i + 1:Nat):Int):=by omega
   rw [e,e2] at j'; exact j') hs trivial
 ·exact wpAny_pyNext_range_end hh j (by omega) q
section
variable {w:World} {ρ0:Rho} {O:Opq} {G:Gr} {env:Env} {A:Around} {gs:Array GenState} {dr:Drawn} {os:OsState} {Er:Value->Shared->Prop} {Q:Value->Shared->Prop}
def Cr (w:World) (A:Around) (Er Q:Value->Shared->Prop) (env:Env) (csc:Scope) (Res:List (Str×Addr)) (elt:Expr) (x:Str) (px:Pos) (iter:Expr) (pos:Pos) (use:Option (Value->Sem Unit)) (it:Value) (st:Shared):Prop :=
 wpAny (model pr w) A (newList []) (fun acc s₃=>wpAny (model pr w) A (newFunctionEnv csc env.globals Res [] env.qual none .none (some env)) (fun cenv s₄ =>
  codeAny (model pr w) A (.compStart (.ListComp elt [⟨.Name x px,iter,[],0⟩] csc pos) 0 it acc { cenv with scope:=relabel csc env }) (compPost (model pr w) A Er use Q acc cenv.locals) s₄) Er s₃) Er st
theorem tE {x:Str} {px:Pos} {elt iter:Expr} {csc:Scope} {pos:Pos} {cls cl:List (Str×Nat)} {as:List Addr} (hok:c9 csc x=true) (hset:cp iter=false) (hcl:eJ cls csc.names []=some cl) (hcc:∀x i,cls.lookup x=some i->∃a,as[i]? = some a/\env.cells.lookup x=some a) :
  ∃Res,(∀x i,cl.lookup x=some i->∃a,as[i]? = some a/\Res.lookup x=some a)/\∀{A:Around} {Er Q:Value->Shared->Prop} {st:Shared},
   wpAny (model pr w) A (eval iter env) (fun v s₁=>wpAny (model pr w) A (pyIter v) (fun it s₂=>Cr w A Er Q env csc Res elt x px iter pos none it s₂) Er s₁) Er st->wpAny (model pr w) A (eval (.ListComp elt [⟨.Name x px,iter,[],0⟩] csc pos) env) Q Er st:=by
 have ck:=eN hok
 apply bc;intro ng
 obtain ⟨Res,r1,r2⟩:=fX hcc hcl
 apply ng;clear ng
 refine ⟨Res,r2,fun {A Er Q st} h=>?_⟩
 rw [eval_ListComp]
 exact wpAny_comprehension_free (use:=none) rfl (dO hset) r1 ck.2.1 ck.2.2.1 h
theorem jB {p:Addr->Prop} {x y:Addr} (h1:p x) (h2:p y):∀a∈[x,y],p a:=fun a m=>by
 cases m with
 | head=>exact h1
 | tail _ m=>refine aa (List.mem_singleton.mp m) ?_; exact h2
theorem tD {use:Option (Value->Sem Unit)} {d:Nat} (hR:Room A d) {x:Str} {px:Pos} {elt iter:Expr} {csc:Scope} {pos:Pos} {cl:List (Str×Nat)} {Res:List (Str×Addr)} {s:St} {h:Heap} {n:Nat} {as:List Addr} {it:Addr} {N:Nat} {J:Nat->Heap->Prop} {P:Nat->Value->Prop} {fx:List (Nat×Addr)}
  (hok:c9 csc x=true) (hcc:∀x i,cl.lookup x=some i->∃a,as[i]? = some a/\Res.lookup x=some a) (S:SR w ρ0 O G env h s as) (X:Nxt w G it N J P) (j0:J 0 h) (hN:N<=1000) (gi:G it=none) (off:jE [it] env.locals s.ob as)
  (C:Nat->Gr->Rho->St->List Value->Prop) (c0:∀G',be G G'->C 0 G' ρ0 ⟨[],cl,s.ob,[]⟩ []) (f0:Fx fx as)
  (turn:∀i G1 G' ρ s Us (cenv:Env) h₂ n as V ac,i < N->P i V->C i G1 ρ s Us->be G G1->be G1 G'->(∀a∈[it,ac],G1 a=none)->(∃o,G' it=some o/\∀vs m,o.data≠.seq vs m)->(∀o,h.get? env.locals=some o->G' env.locals=some o)->At G' ac (.pl Us)->it≠ac->cenv.scope=bL csc env.scope->cenv.locals≠env.locals->SR w ρ O G' cenv h₂ s as->Fx fx as->∀(T E1 E2:Value->Shared->Prop),(∀U ρ' s' h' n' as' G2,be G' G2->C (i + 1) (strip [it,ac] G2) ρ' s' (Us++[U])->SR w ρ' O G2 cenv h' s' as'->Fx fx as'->T U ⟨h',gs,dr,n',os⟩)->
   wpAny (model pr w) A (storeName cenv x V) (fun zw s₂=>wpAny (model pr w) A (eval elt cenv) T E1 s₂) E2 ⟨h₂,gs,dr,n,os⟩)
  (done:∀ρ s' h' n as' G' ac Us cL,C N G' ρ s' Us->be G (strip [env.locals] G')->strip [env.locals] G' cL=none->(∃m,h'.Ns cL m)->
   (∀ls' cl',(∀x v,ls'.lookup x=some v->∃v0,s.ls.lookup x=some v0/\∀V,Dn ρ0 as v0 V->Dn ρ as' v V)->(∀x i,cl'.lookup x=some i->∃j,s.cl.lookup x=some j/\∀a,as[j]? = some a->as'[i]? = some a)->SR w ρ O (Gr.add (strip [env.locals] G') h' [cL]) env h' ⟨ls',cl',s'.ob,[]⟩ as')->
   Fx fx as'->At h'.get? ac (.pl Us)->jE [ac,cL] env.locals s'.ob as'->ac≠cL->strip [env.locals] G' ac=none->compPost (model pr w) A Er use Q (.ref ac) cL (.ok .next) ⟨h',gs,dr,n,os⟩) :
  Cr w A Er Q env csc Res elt x px iter pos use (.ref it) ⟨h,gs,dr,n,os⟩:=by
 apply bc;intro ng
 obtain ⟨c1,c2,c3,c4⟩:=eN hok
 apply ng;clear ng
 unfold Cr
 refine wpAny_newObj_type (s:=⟨h,gs,dr,n,os⟩) ?_ (Nat.zero_le _)
 have kH:h.StaysIn (h.push { cls:=.type "list",data:=.seq #[] }):=fun zw zw e=>Heap.get?_push_of_some _ e
 have lac:At (h.push { cls:=.type "list",data:=.seq #[] }).get? h.objs.size (.pl []):=⟨_,Heap.get?_push_size _ rfl,_,rfl⟩
 have hsz:(h.push { cls:=.type "list",data:=.seq #[] }).objs.size=h.objs.size + 1:=Heap.size_push ..
 show wpAny _ _ _ _ _ ⟨h.push { cls:=.type "list",data:=.seq #[] },gs,dr,n,os⟩
 generalize h.push { cls:=.type "list",data:=.seq #[] }=H2 at kH lac hsz
 refine wpAny_newFunctionEnv (s:=⟨H2,gs,dr,n,os⟩) c1 (by intro y hy; simp at hy) (fun h₁ hns hsb=>?_) c2
 dsimp only at hns hsb
 have kk:H2.StaysIn h₁:=fun b o e=>hsb.extBut b o (Nat.ne_of_lt (Heap.lt_size e)) (Heap.get?_push_of_some _ e)
 have S2:=S.stay kH
 have SC:SR w ρ0 O (iI G H2 env.locals) (compEnvC csc Res H2.objs.size env) h₁ ⟨[],cl,s.ob,s.pc⟩ as :=
  S2.co.enterC kk rfl S.eg S.eb c2 hns (fun x v e=>by (exact ap e)) hcc
 have SC:=SC.pcs (pc:=[]) fun zw m=>(nomatch m)
 apply bc;intro ng
 obtain ⟨io,eio,-⟩:=X.ex j0
 obtain ⟨fn,⟨oL,es,ep,l2,l3⟩,l1⟩:=S.lc
 apply ng;clear ng
 have lL:=Heap.lt_size l2
 have lit:=Heap.lt_size eio
 have g0:be G (iI G H2 env.locals):=iI.sub S.fL
 have ge:iI G H2 env.locals env.locals=some oL:=by unfold iI; refine aa (if_pos rfl) ?_; exact kH _ _ l2
 have gn:G h.objs.size=none:=by
  induction q:G h.objs.size with
  | none=>rfl
  | some y=>exact absurd (Heap.lt_size (S.kp _ _ q)) (Nat.lt_irrefl _)
 have git:iI G H2 env.locals it=none:=by unfold iI; refine aa (if_neg (off it (.head _)).1) ?_; exact gi
 have gac:iI G H2 env.locals h.objs.size=none:=by unfold iI; refine aa (if_neg (Nat.ne_of_gt lL)) ?_; exact gn
 have off0:jE [it,h.objs.size] H2.objs.size s.ob as:=jB ⟨by refine aa hsz ?_; exact Nat.ne_of_lt (Nat.lt_succ_of_lt lit),(off it (.head _)).2⟩
  ⟨by refine aa hsz ?_; exact Nat.ne_of_lt (Nat.lt_succ_self _),fun i o e ow e'=>absurd ((S.ob i o _ e e').1.lt ow) (Nat.lt_irrefl _)⟩
 have nia:it≠h.objs.size:=Nat.ne_of_lt lit
 generalize h.objs.size=ac at gac off0 nia lac
 have loop:codeAny (model pr w) A (.compLoop (.ListComp elt [⟨.Name x px,iter,[],0⟩] csc pos) 0 (.ref it) (.ref ac) (compEnvC csc Res H2.objs.size env)) (compPost (model pr w) A Er use Q (.ref ac) H2.objs.size) ⟨h₁,gs,dr,n,os⟩:=by
  generalize hRR:compPost (model pr w) A Er use Q (.ref ac) H2.objs.size=RR
  obtain ⟨I,hI⟩:∃I:Nat->Shared->Prop,∀k st,I k st↔∃i ρ s h n as Gi Us,k + i=N/\st=⟨h,gs,dr,n,os⟩/\C i Gi ρ s Us/\SR w ρ O Gi (compEnvC csc Res H2.objs.size env) h s as/\be (iI G H2 env.locals) Gi/\(∀a∈[it,ac],Gi a=none)/\jE [it,ac] H2.objs.size s.ob as/\Fx fx as/\J i h/\At h.get? ac (.pl Us)/\Us.length=i:=⟨_,fun zw zw=>Iff.rfl⟩
  refine codeAny_compLoop_list I (fun k st i0=>?_) N
   ((hI _ _).mpr ⟨0,ρ0,_,h₁,n,as,_,[],rfl,rfl,c0 _ g0,SC,fun zw zw e=>e,jB git gac,off0,f0,X.keep (X.keep j0 (kH it)) (kk it),lac.le (kk ac),rfl⟩)
  ·apply bc;intro ng
   obtain ⟨i,ρ,s',h',n',as',Gi,Us,hk,rfl,c,Si,le,fr,of,f,j,la,ul⟩:=(hI _ _).mp i0
   apply ng;clear ng i0
   have gk:be G (Heap.get? h'):=fun a o e=>Si.kp _ _ (le _ _ (g0 _ _ e))
   by_cases hi:i < N
   ·refine X.item hi j gk fun h2 V n2 j2 hs hV=>?_
    have k2:∀b y,b ∉ [it,ac]->h'.get? b=some y->h2.get? b=some y:=fun b y m e=>(hs.2 b fun q=>m (q▸.head _)).trans e
    have S3:=Si.off fr of k2
    have S4:=S3.pin (h:=h2) of fr
    have la2:At h2.get? ac (.pl Us):=la.le fun o e=>(hs.2 ac fun q=>nia q.symm).trans e
    have addm:∀a∈[it,ac],(Gi.add h2 [it,ac]) a=h2.get? a:=fun a m=>by unfold Gr.add; exact aa (if_pos m) rfl
    apply bc;intro ng
    obtain ⟨io2,e2,d2⟩:=X.ex j2
    apply ng;clear ng
    refine wpAny_assign_Name (turn i Gi _ ρ s' Us _ h2 n2 as' V ac hi hV c (fun a o e=>le _ _ (g0 _ _ e)) (be.add fr) fr ⟨io2,by rw [addm it (.head _)]; exact e2,d2⟩ (fun o e=>be.add fr _ _ (le _ _ (by rw [l2] at e; cases e; exact ge))) (la2.le fun o e=>by rw [addm ac (.tail _ (.head _))]; exact e) nia rfl (by show H2.objs.size≠_; rw [hsz]; exact Nat.ne_of_gt (Nat.lt_succ_of_lt lL)) S4 f _ _ _ fun U ρ' s5 h5 n5 as5 G2 le2 c5 S5 f5=>?_)
    have up:∀a∈[it,ac],∀o,h2.get? a=some o->h5.get? a=some o:=fun a m o e=>S5.kp _ _ (le2 _ _ (by refine aa (addm a m) ?_; exact e))
    have l5:At h5.get? ac (.pl Us):=la2.le (up ac (.tail _ (.head _)))
    have l5p:h5.PlainList ac Us.toArray:=let ⟨o,e1,n1,e2⟩:=l5; ⟨n1,e2▸e1⟩
    refine wpAny_list_append_plain (s:=⟨h5,gs,dr,n5,os⟩) l5p (fun h6 l6 hs6=>?_) (by simp; refine aa sizeLine_eq ?_; (first | lia | omega))
    have l6':At h6.get? ac (.pl (Us++[U])):=by
     apply bc;intro ng
     obtain ⟨n2,e2⟩:=l6
     apply ng;clear ng
     exact ⟨_,e2,n2,by simp⟩
    have k6:∀b y,b ∉ [it,ac]->h5.get? b=some y->h6.get? b=some y:=fun b y m e=>(hs6.2 b fun q=>m (q▸.tail _ (.head _))).trans e
    apply bc;intro ng
    obtain ⟨S7,of7,le7,fr7⟩:=S5.unpin (l:=[it,ac]) SC.bs SC.og (jB git gac) (fun a o e=>le2 _ _ (be.add fr a o (le a o e))) (fun a m=>let ⟨o,e⟩:=jB (p:=fun a=>∃o,h2.get? a=some o) ⟨io2,e2⟩ (let ⟨o,e,_⟩:=la2; ⟨o,e⟩) a m; ⟨o,le2 _ _ ((addm a m).trans e)⟩) k6
    apply ng;clear ng
    exact ⟨k - 1,by (first | lia | omega),(hI _ _).mpr ⟨i + 1,ρ',s5,h6,n5,as5,_,Us++[U],by (first | lia | omega),rfl,c5,S7,le7,fr7,of7,f5,
     X.keep (X.keep j2 (up it (.head _))) (fun o e=>(hs6.2 it nia).trans e),l6',by simp [ul]⟩⟩
   ·have hiN:i=N:=by (first | lia | omega)
    refine X.stop hR.hd (hiN▸j) gk fun h2 hs=>?_
    have k2:∀b y,b ∉ [it,ac]->h'.get? b=some y->h2.get? b=some y:=fun b y m e=>hs b y (fun q=>m (q▸.head _)) e
    have S3:=Si.off fr of k2
    apply bc;intro ng
    obtain ⟨f3,N3,-⟩:=S3.lc
    apply ng;clear ng
    have cL:Gi H2.objs.size=none:=S3.fL
    have gL:Gi env.locals=some oL:=le _ _ ge
    have gst:be G (strip [env.locals] Gi):=be.strip (fun a m=>by refine aa (List.mem_singleton.mp m) ?_; exact S.fL) fun a o e=>le _ _ (g0 _ _ e)
    have sn:∀a,Gi a=none->strip [env.locals] Gi a=none:=fun a e=>by unfold strip; split; rfl; exact e
    have ne:∀a,Gi a=none->a≠env.locals:=fun a e q=>by rw [q,gL] at e; cases e
    have aL:ac≠H2.objs.size:=(of ac (.tail _ (.head _))).1
    have offc:jE [H2.objs.size] env.locals s'.ob as':=fun a m=>by
     refine aa (List.mem_singleton.mp m) ?_
     exact ⟨ne _ cL,fun i o e ow e'=>((S3.ob i o _ e e').2 ow).1 rfl⟩
    refine aa (Eq.symm hRR) ?_
    refine done ρ s' h2 n' as' Gi ac Us H2.objs.size (hiN▸c) gst (sn _ cL) ⟨f3,N3⟩ (fun ls' cl' hl hc=>?_) f ?_ (jB ⟨ne ac (fr ac (.tail _ (.head _))),(of ac (.tail _ (.head _))).2⟩ (offc _ (.head _))) aL (sn _ (fr ac (.tail _ (.head _))))
    ·obtain ⟨hb,W,kb⟩:=S.bs
     refine SR.pin (s:=⟨ls',cl',s'.ob,[]⟩) ⟨⟨hb,W,fun a o e=>gst a o (kb a o e)⟩,fun a o e=>?_,fun a o e=>gst a o (S.og a o e),by unfold strip; exact aa (if_pos (.head _)) rfl,S.eg,S.eb,S.ek,⟨fn,⟨oL,es,ep,S3.kp _ _ gL,l3⟩,fun y v e=>?_⟩,fun y i e=>?_,S3.sz,fun i o a e e'=>?_,S3.nd,fun zw m=>nomatch m⟩ offc (fun a m=>by refine aa (List.mem_singleton.mp m) ?_; exact sn _ cL)
     ·unfold strip at e; split at e
      ·exact ap e
      ·exact S3.kp a o e
     ·obtain ⟨v0,z1,z2⟩:=hl y v e
      apply bc;intro ng
      obtain ⟨V,z3,z4⟩:=l1 y v0 z1
      apply ng;clear ng
      exact ⟨V,z3,z2 V z4⟩
     ·obtain ⟨j,z1,z2⟩:=hc y i e
      apply bc;intro ng
      obtain ⟨a,z3,z4⟩:=S.cc y j z1
      apply ng;clear ng
      exact ⟨a,z2 a z3,z4⟩
     ·obtain ⟨z1,z2⟩:=S3.ob i o a e e'
      exact ⟨z1,fun ow=>⟨ne a (z2 ow).2,sn a (z2 ow).2⟩⟩
    ·exact la.le fun o e=>hs ac o (fun q=>nia q.symm) e
 exact codeAny_compStart_list loop (X.self (X.keep (X.keep j0 (kH it)) (kk it)) loop)
theorem SR.drop1 {ρ:Rho} {G1:Gr} {h h':Heap} {s:St} {as:List Addr} {a:Addr} (S:SR w ρ O (G1.add h [a]) env h' s as) (g:G1 a=none) (ex:∃o,h.get? a=some o) (b0:∃hb,Wd w hb/\∀x o,hb.get? x=some o->G1 x=some o) (og:be O.g G1) {h'':Heap} (k:∀b x,b ∉ [a]->h'.get? b=some x->h''.get? b=some x) :
  SR w ρ O G1 env h'' s as/\jE [a] env.locals s.ob as:=by
 have fr:∀x∈[a],G1 x=none:=fun x m=>by refine aa (List.mem_singleton.mp m) ?_; exact g
 apply bc;intro ng
 obtain ⟨S5,o5,_,_⟩:=S.unpin (G0:=G1) (l:=[a]) b0 og fr (be.add fr) (fun x m=>by
  refine aa (List.mem_singleton.mp m) ?_
  obtain ⟨o,e⟩:=ex
  exact ⟨o,by unfold Gr.add; refine aa (if_pos (.head _)) ?_; exact e⟩) k
 apply ng;clear ng
 have eqG:strip [a] (Gr.add G1 h [a])=G1:=by
  funext b
  unfold strip Gr.add
  by_cases m:b∈[a]
  ·exact aa (if_pos m) (aa (fr b m) rfl)
  ·exact aa (if_neg m) (aa (if_neg m) rfl)
 rw [eqG] at S5
 exact ⟨S5,o5⟩
theorem zd {d:Nat} (hR:Room A d) {x:Str} {px:Pos} {elt iter:Expr} {csc:Scope} {pos:Pos} {cl:List (Str×Nat)} {Res:List (Str×Addr)} {s:St} {h:Heap} {n:Nat} {as:List Addr} {it:Addr} {N:Nat} {J:Nat->Heap->Prop} {P:Nat->Value->Prop} {fx:List (Nat×Addr)}
  (hok:c9 csc x=true) (hcc:∀x i,cl.lookup x=some i->∃a,as[i]? = some a/\Res.lookup x=some a) (S:SR w ρ0 O G env h s as) (X:Nxt w G it N J P) (j0:J 0 h) (hN:N<=1000) (gi:G it=none) (off:jE [it] env.locals s.ob as)
  (C:Nat->Gr->Rho->St->List Value->Prop) (c0:∀G',be G G'->C 0 G' ρ0 ⟨[],cl,s.ob,[]⟩ []) (f0:Fx fx as)
  (turn:∀i G1 G' ρ s Us (cenv:Env) h₂ n as V ac,i < N->P i V->C i G1 ρ s Us->be G G1->be G1 G'->(∀a∈[it,ac],G1 a=none)->(∃o,G' it=some o/\∀vs m,o.data≠.seq vs m)->(∀o,h.get? env.locals=some o->G' env.locals=some o)->At G' ac (.pl Us)->it≠ac->cenv.scope=bL csc env.scope->cenv.locals≠env.locals->SR w ρ O G' cenv h₂ s as->Fx fx as->∀(T E1 E2:Value->Shared->Prop),(∀U ρ' s' h' n' as' G2,be G' G2->C (i + 1) (strip [it,ac] G2) ρ' s' (Us++[U])->SR w ρ' O G2 cenv h' s' as'->Fx fx as'->T U ⟨h',gs,dr,n',os⟩)->
   wpAny (model pr w) A (storeName cenv x V) (fun zw s₂=>wpAny (model pr w) A (eval elt cenv) T E1 s₂) E2 ⟨h₂,gs,dr,n,os⟩)
  (done:∀ρ s' h' n as' G' ac Us,C N G' ρ s' Us->be G (strip [env.locals] G')->
   (∀ls' cl',(∀x v,ls'.lookup x=some v->∃v0,s.ls.lookup x=some v0/\∀V,Dn ρ0 as v0 V->Dn ρ as' v V)->(∀x i,cl'.lookup x=some i->∃j,s.cl.lookup x=some j/\∀a,as[j]? = some a->as'[i]? = some a)->SR w ρ O (strip [env.locals] G') env h' ⟨ls',cl',s'.ob,[]⟩ as')->
   Fx fx as'->At h'.get? ac (.pl Us)->jE [ac] env.locals s'.ob as'->strip [env.locals] G' ac=none->Q (.ref ac) ⟨h',gs,dr,n,os⟩) :
  Cr w A Er Q env csc Res elt x px iter pos none (.ref it) ⟨h,gs,dr,n,os⟩:=by
 refine tD hR hok hcc S X j0 hN gi off C c0 f0 turn fun ρ s' h' n as' G' ac Us cL c gg gc ⟨m,N⟩ back fx la of acL ga=>⟨m,N,fun h3 hs3=>?_⟩
 apply bc;intro ng
 obtain ⟨hb,W,kb⟩:=S.bs
 obtain ⟨oc,ec⟩:∃o,h'.get? cL=some o:=let ⟨o,_,_,e,_⟩:=N; ⟨o,e⟩
 apply ng;clear ng
 have k3:∀b x,b ∉ [cL]->h'.get? b=some x->h3.get? b=some x:=fun b x m e=>(hs3.2 b fun q=>m (q▸.head _)).trans e
 exact done ρ s' h3 n as' G' ac Us c gg (fun ls' cl' hl hc=>((back ls' cl' hl hc).drop1 gc ⟨oc,ec⟩ ⟨hb,W,fun a o e=>gg a o (kb a o e)⟩ (fun a o e=>gg a o (S.og a o e)) k3).1) fx (la.le fun o e=>(hs3.2 ac acL).trans e) (fun a m=>of a (by refine aa (List.mem_singleton.mp m) ?_; exact .head _)) ga
end
def H2 (w:World) (ρ:Rho) (O:Opq) (hk:Hk) (r0:Nat):Prop:=HB w O/\2<=r0/\ay w ρ O hk r0
noncomputable def vb (P:Params) (hk:Hk) (n:Nat) (sc:Scope) (x:Str) (v:AV) (body:List Stmt) (s:St):Tr:=bZ sc x v s fun s=>qm (fS P hk n) sc body s fun f s=>.leaf f { s with pc:=[] }
section
variable {w:World} {ρ ρ':Rho} {O:Opq} {d:Nat} {A:Around} {gs:Array GenState} {dr:Drawn} {os:OsState} {G:Gr} {env:Env} {hk:Hk} {n0 r0:Nat} {s s':St} {vc:VC} {m:List Nat} {sc:Scope} {h:Heap} {n:Nat} {as:List Addr}
theorem H2.run (H:H2 w ρ O hk r0) (n:Nat):Snd w ρ O (n + r0) (fS w.params hk n):=oZ H.1 H.2.1 H.2.2 n
theorem iT (H:H2 w ρ O hk r0) {bs:List Stmt} (hsc:env.scope=sc) (e:(cx w.params hk n0 sc bs s).vc m .nx s'=vc) {Q:Flow->Shared->Prop} {E:Value->Shared->Prop} (R:Room A (n0 + r0)) (S:SR w ρ O G env h s as) (y:vc.den ρ ρ')
  (q:∀h' as' n',SR w ρ' O G env h' s' (m.map fun j=>as'.getD j 0)->Pre as as'->Q .next ⟨h',gs,dr,n',os⟩):wpAny (model pr w) A (execs bs env) Q E ⟨h,gs,dr,n,os⟩:=by
 apply bc;intro ng
 subst hsc
 apply ng;clear ng
 rw [<- e] at y
 have y:=cU y
 unfold cx at y
 refine cq (H.run n0) R y S fun fl F h3 as3 n3 s3 y S3 p3 df=>?_
 apply bc;intro ng
 obtain ⟨l0,l,y1,y2,y3,y4⟩:=y
 apply ng;clear ng
 have S3:=S3.pcs (pc:=[]) fun zw m=>(nomatch m)
 induction fl with
 | nx=>have df:F = .next:=df; subst df; exact q _ _ _ (S3.re m y3 y4) p3
 | ct=>exact ap y1
 | rt v=>exact ap y1
 | bk=>exact ap y1
theorem ua (H:H2 w ρ O hk r0) {bs:List Stmt} {v:AV} (hsc:env.scope=sc) (e:(cx w.params hk n0 sc bs s).vc m (.rt v) s'=vc) {Q:Flow->Shared->Prop} {E:Value->Shared->Prop} (R:Room A (n0 + r0)) (S:SR w ρ O G env h s as) (y:vc.den ρ ρ')
  (q:∀V h' as' n',SR w ρ' O G env h' s' (m.map fun j=>as'.getD j 0)->Pre as as'->Dn ρ' (m.map fun j=>as'.getD j 0) v V->Q (.ret V) ⟨h',gs,dr,n',os⟩):wpAny (model pr w) A (execs bs env) Q E ⟨h,gs,dr,n,os⟩:=by
 subst hsc
 rw [<- e] at y
 have y:=cU y
 unfold cx at y
 refine cq (H.run n0) R y S fun fl F h3 as3 n3 s3 y S3 p3 df=>?_
 obtain ⟨l0,l,y1,y2,y3,y4⟩:=y
 have S3:=S3.pcs (pc:=[]) fun zw m=>(nomatch m)
 induction fl with
 | nx=>exact ap y1
 | ct=>exact ap y1
 | bk=>exact ap y1
 | rt u =>
  obtain ⟨V,rfl,dv⟩:=df
  exact q V _ _ _ (S3.re m y3 y4) p3 (bT (dF rfl) y1 y2 dv)
theorem qk (H:H2 w ρ O hk r0) {e:Expr} {v:AV} (hsc:env.scope=sc) (ev:(bA w.params hk n0 sc e s).vc m (.rt v) s'=vc) {Q:Value->Shared->Prop} {E:Value->Shared->Prop} (R:Room A (n0 + r0)) (S:SR w ρ O G env h s as) (y:vc.den ρ ρ')
  (q:∀V h' as' n',SR w ρ' O G env h' s' (m.map fun j=>as'.getD j 0)->Pre as as'->Dn ρ' (m.map fun j=>as'.getD j 0) v V->Q V ⟨h',gs,dr,n',os⟩):wpAny (model pr w) A (eval e env) Q E ⟨h,gs,dr,n,os⟩:=by
 subst hsc
 rw [<- ev] at y
 have y:=cU y
 unfold bA at y
 refine (H.run n0).E R y S fun u V s3 h3 as3 n3 y S3 p3 du=>?_
 obtain ⟨l0,l,y1,y2,y3,y4⟩:=y
 exact q V h3 _ n3 ((S3.pcs (pc:=[]) fun zw m=>nomatch m).re m y3 y4) p3 (bT (dF rfl) y1 y2 du)
theorem rX (H:H2 w ρ O hk r0) {e:Expr} {whole:Sem Value} {t:Tr} (hsc:env.scope=sc) (ev:lG w.params hk n0 sc e s=t) {Q:Bool->Shared->Prop} {E:Value->Shared->Prop} (R:Room A (n0 + r0)) (S:SR w ρ O G env h s as) (hw:eH e=true->whole=eval e env)
  (y:t.ok ρ fun f s'=>∀c h' as' n',f = .rt (.bool c)->SR w ρ O G env h' s' as'->Pre as as'->Q c ⟨h',gs,dr,n',os⟩):wpAny (model pr w) A (isTrue e env whole) Q E ⟨h,gs,dr,n,os⟩:=by
 apply bc;intro ng
 subst hsc
 apply ng;clear ng
 rw [<- ev] at y
 unfold lG at y
 exact (H.run n0).T R y S hw fun c s3 h3 as3 n3 y S3 p3=>y c h3 as3 n3 rfl (S3.pcs (pc:=[]) fun zw m=>nomatch m) p3
theorem tV (H:H2 w ρ O hk r0) {x:Str} {v:AV} {V:Value} {body:List Stmt} (hsc:env.scope=sc) (e:(vb w.params hk n0 sc x v body s).vc m .ct s'=vc) {Q:Flow->Shared->Prop} {E1 E2:Value->Shared->Prop} (R:Room A (n0 + r0)) (S:SR w ρ O G env h s as) (dv:Dn ρ as v V) (y:vc.den ρ ρ')
  (q:∀F h' as' n',(F = .next\/F = .cont)->SR w ρ' O G env h' s' (m.map fun j=>as'.getD j 0)->Pre as as'->Q F ⟨h',gs,dr,n',os⟩) :
  wpAny (model pr w) A (storeName env x V) (fun zw s₂=>wpAny (model pr w) A (execs body env) Q E1 s₂) E2 ⟨h,gs,dr,n,os⟩:=by
 apply bc;intro ng
 subst hsc
 apply ng;clear ng
 rw [<- e] at y
 have y:=cU y
 unfold vb at y
 refine aW y S dv fun s2 h2 n2 y S2=>?_
 refine cq (H.run n0) R y S2 fun fl F s3 h3 as3 n3 y S3 p3 df=>?_
 apply bc;intro ng
 obtain ⟨l0,l,y1,y2,y3,y4⟩:=y
 apply ng;clear ng
 refine q F h3 as3 n3 ?_ ((S3.pcs (pc:=[]) fun zw m=>nomatch m).re m y3 y4) p3
 induction fl with
 | nx=>exact .inl df
 | ct=>exact .inr df
 | rt v=>exact ap y1
 | bk=>exact ap y1
theorem H2.no (hb:HB w O):H2 w ρ O aA 2:=⟨hb,Nat.le_refl _,ay.no⟩
theorem be.hb {w:World} {h:Heap} (W:Wd w h) {P:Nat->Addr->Prop} {n1 n2}:HB w ⟨h.get?,P,n1,n2⟩:=⟨h,W,fun zw zw e=>e⟩
end
noncomputable def A9 (v:Value):St:=⟨[(S' "script",.glb v),(S' "whole_one",.int (.v 0))],[],[.dead,.lit 0 0],[]⟩
noncomputable def EN (v:Value):St:=⟨[(S' "script",.glb v),(S' "whole_one",.int (.v 0))],[],[],[]⟩
noncomputable def dQ (P:Params):Stmt:=(al P 850).getD 1 (.Pass default)
noncomputable def Hw (P:Params) (v:Value):VC:=(cx P aA 10 (bm P 850) ((al P 850).take 1) ⟨[(S' "script",.glb v)],[],[],[]⟩).vc [] .nx (EN v)
noncomputable def Ky (P:Params) (v:Value) (i:Nat):VC:=(vb P aA 10 (bm P 850) (bh (cB (dQ P))) (.int (.v 1)) (bf (dQ P)) ⟨(A9 v).ls,[],[.dead,.lit 0 i],[]⟩).vc [0,1] .ct ⟨(A9 v).ls,[],[.dead,.lit 0 i],[]⟩
noncomputable def Lz (P:Params) (v:Value):VC:=(cx P aA 10 (bm P 850) ((al P 850).drop 2) ⟨(A9 v).ls,[],[.dead,.dead],[]⟩).vc [2] (.rt (.loc 0)) ⟨[],[],[.lst [.int (.v 0),.int (.c 0)]],[]⟩
noncomputable def jY (P:Params):Stmt:=(al P 878).getD 1 (.Pass default)
noncomputable def kF (P:Params):Stmt:=(ug (jY P)).getD 0 (.Pass default)
noncomputable def m4:List (Str×AV):=[(S' "heap",.loc 0),(S' "left",.loc 1),(S' "found",.loc 2)]
noncomputable def kh (f:AO):St:=⟨m4,[],[.lst [.int (.v 0),.int (.v 1)],.rf 3,f],[]⟩
noncomputable def JE (P:Params):VC:=(cx P fF 12 (bm P 878) ((al P 878).take 1) ⟨[(S' "items",.loc 1),(S' "heap",.loc 0)],[],[.lst [.int (.v 0),.int (.v 1)],.fz (.rf 1)],[]⟩).vc [0,2,3] .nx (kh (.pl []))
noncomputable def J0 (P:Params):VC:=(bA P fF 12 (bm P 878) (bq (bq (cg (kF P)))) (kh (.rf 4))).vc [0,1,2] (.rt (.int (.v 4))) ⟨m4,[],[.lst [.int (.v 2),.int (.v 3)],.rf 3,.rf 4],[]⟩
noncomputable def Kl (P:Params):VC:=(cx P fF 12 (bm P 878) ((al P 878).drop 2) (kh (.rf 4))).vc [0,2] (.rt (.loc 1)) ⟨[],[],[.lst [.int (.v 0),.int (.v 1)],.rf 4],[]⟩
noncomputable def dT (P:Params):Stmt:=(al P 892).getD 2 (.Pass default)
noncomputable def Ac:List (Str×AV):=[(S' "items",.loc 4),(S' "begin",.int (.v 2)),(S' "end",.int (.v 3))]
noncomputable def lS:List AO:=[.dead,.dead,.dead,.lst [.int (.v 0),.int (.v 1)],.fz (.rf 1),.dead,.dead,.dead,.dead]
noncomputable def bW:St:=⟨Ac,[],lS,[]⟩
noncomputable def zF:List Nat:=[0,1,2,3,4,5,6,7,8]
noncomputable def Kg (P:Params):VC:=(cx P fF 12 (bm P 892) ((al P 892).take 2) ⟨[(S' "items",.loc 4),(S' "heap",.loc 3)],[],lS,[]⟩).vc zF .nx bW
noncomputable def JM (P:Params):VC:=(cx P fF 12 (bm P 892) (ug (dT P)) bW).vc zF .nx bW
noncomputable def Hv (P:Params):VC:=(cx P fF 12 (bm P 892) ((al P 892).drop 3) bW).vc [3,9] (.rt (.loc 1)) ⟨[],[],[.lst [.int (.v 0),.int (.v 1)],.tup [.int (.v 2),.int (.v 3)]],[]⟩
noncomputable def mJ (P:Params):Expr:=HM (iU 1 (cg (dT P)))
noncomputable def Nk.run:Nk->Bool | .skp=>false | _=>true
noncomputable def Ml (P:Params) (k:Nk):Tr:=oA P (.loc (9 + k.last)) (S' "kind") ⟨Ac,[],lS++(k.T 9 11).map .fz,[]⟩ fun v zw=>gN .NotEq v (.int (.c 6)) bW fun c s=>.leaf (.rt (.bool c)) s
theorem yy (P:Params) (v:Value):Hw P v=VC.ok [Ob1.val v v,Ob1.ie (IE.c 0) (IE.v 0)]:=by kernel_rfl
theorem xN (P:Params) (v:Value) (i:Nat):Ky P v i=VC.br (CE.lt (IE.v 1) (IE.c 0)) (VC.ok [Ob1.nat i i,Ob1.val v v,Ob1.ie (IE.add (IE.add (IE.mul (IE.v 0) (IE.c 1000003)) (IE.mul (IE.mod (IE.abs (IE.v 1)) (IE.c 1000000000000000000000000000000)) (IE.c 2))) (IE.c 1)) (IE.v 0)]) (VC.ok [Ob1.nat i i,Ob1.val v v,Ob1.ie (IE.add (IE.add (IE.mul (IE.v 0) (IE.c 1000003)) (IE.mul (IE.mod (IE.abs (IE.v 1)) (IE.c 1000000000000000000000000000000)) (IE.c 2))) (IE.c 0)) (IE.v 0)]):=by kernel_rfl
theorem wR (P:Params) (v:Value):Lz P v=VC.ok [Ob1.ie (IE.v 0) (IE.v 0),Ob1.ie (IE.c 0) (IE.c 0)]:=by kernel_rfl
theorem wD (P:Params):JE P=VC.req (CE.ilen 1 0) (VC.ok [Ob1.ie (IE.v 0) (IE.v 0),Ob1.ie (IE.v 1) (IE.v 1),Ob1.rf 1 3]):=by kernel_rfl
theorem xP (P:Params):J0 P=VC.req (CE.ln 3 (IE.fn 900 (IE.c 3) (IE.c 0) (IE.c 0))) (VC.req (CE.lt (IE.c 0) (IE.fn 900 (IE.c 3) (IE.c 0) (IE.c 0))) (VC.req (CE.lt (IE.fn 900 (IE.c 3) (IE.c 0) (IE.c 0)) (IE.c 1000000)) (VC.req (CE.le (IE.c 0) (IE.v 1)) (VC.req (CE.lt (IE.v 1) (IE.c 1000000)) (VC.ok [Ob1.ie (IE.fn 30 (IE.v 0) (IE.v 1) (IE.fn 900 (IE.c 3) (IE.c 0) (IE.c 0))) (IE.v 4),Ob1.ie (IE.fn 31 (IE.v 0) (IE.v 1) (IE.fn 900 (IE.c 3) (IE.c 0) (IE.c 0))) (IE.v 2),Ob1.ie (IE.add (IE.v 1) (IE.c 1)) (IE.v 3),Ob1.rf 3 3,Ob1.rf 4 4]))))):=by kernel_rfl
theorem xd (P:Params):Kl P=VC.ok [Ob1.ie (IE.v 0) (IE.v 0),Ob1.ie (IE.v 1) (IE.v 1),Ob1.rf 4 4]:=by kernel_rfl
theorem wx (P:Params):Kg P=VC.req (CE.ln 1 (IE.fn 900 (IE.c 1) (IE.c 0) (IE.c 0))) (VC.req (CE.lt (IE.c 0) (IE.fn 900 (IE.c 1) (IE.c 0) (IE.c 0))) (VC.req (CE.lt (IE.fn 900 (IE.c 1) (IE.c 0) (IE.c 0)) (IE.c 1000000)) (VC.req (CE.le (IE.c 0) (IE.v 1)) (VC.req (CE.lt (IE.v 1) (IE.c 1000000)) (VC.ok [Ob1.ie (IE.fn 31 (IE.v 0) (IE.v 1) (IE.fn 900 (IE.c 1) (IE.c 0) (IE.c 0))) (IE.v 0),Ob1.ie (IE.add (IE.v 1) (IE.c 1)) (IE.v 1),Ob1.rf 1 1,Ob1.ie (IE.fn 30 (IE.v 0) (IE.v 1) (IE.fn 900 (IE.c 1) (IE.c 0) (IE.c 0))) (IE.v 2),Ob1.ie (IE.fn 30 (IE.v 0) (IE.v 1) (IE.fn 900 (IE.c 1) (IE.c 0) (IE.c 0))) (IE.v 3)]))))):=by kernel_rfl
theorem wb (P:Params):JM P=VC.ok [Ob1.ie (IE.v 0) (IE.v 0),Ob1.ie (IE.v 1) (IE.v 1),Ob1.rf 1 1,Ob1.ie (IE.v 2) (IE.v 2),Ob1.ie (IE.add (IE.v 3) (IE.c 1)) (IE.v 3)]:=by kernel_rfl
theorem wL (P:Params):Hv P=VC.ok [Ob1.ie (IE.v 0) (IE.v 0),Ob1.ie (IE.v 1) (IE.v 1),Ob1.ie (IE.v 2) (IE.v 2),Ob1.ie (IE.v 3) (IE.v 3)]:=by kernel_rfl
noncomputable def dR (x c:Int):Int:=x * 1000003 + (if c < 0 then -c else c) % 10 ^ 30 * 2 + (if c < 0 then 1 else 0)
noncomputable def fy (ns:List Int):Int:=(ns.take 24).foldl dR 0
noncomputable def fR:Nat->Int->Int->List Int->List Int->List Int×Int×Int
 | 0,x,c,_,F=>(F,x,c)
 | n + 1,x,c,L,F=>fR n (bY x c L.length) (c + 1) (L.eraseIdx (bt x c L.length).toNat) (F++[L.getD (bt x c L.length).toNat 0])
theorem i7:∀{L:List Int} {i:Nat},i < L.length->(L.getD i 0::L.eraseIdx i).Perm L
 | a::r,0,_=>.refl _
 | a::r,i + 1,h=>((List.Perm.swap a _ _).trans (.cons a (i7 (Nat.lt_of_succ_lt_succ h))))
theorem mq:∀{n:Nat} {x c:Int} {L F:List Int},L.length=n->(fR n x c L F).1.Perm (F++L)/\(fR n x c L F).2.2=c + n
 | 0,x,c,L,F,h=>by
  rw [List.eq_nil_of_length_eq_zero h,List.append_nil]
  exact ⟨.refl _,(Int.add_zero c).symm⟩
 | n + 1,x,c,L,F,h=>by
  have b:=bC (a:=x) (c:=c) (m:=L.length) (by (first | lia | omega))
  have hi:(bt x c L.length).toNat < L.length:=by (first | lia | omega)
  obtain ⟨p,q⟩:=mq (n:=n) (x:=bY x c L.length) (c:=c + 1) (L:=L.eraseIdx (bt x c L.length).toNat) (F:=F++[L.getD (bt x c L.length).toNat 0]) (by refine aa (List.length_eraseIdx_of_lt hi) ?_; (first | lia | omega))
  refine ⟨p.trans ?_,by show (fR n _ _ _ _).2.2=_; refine aa q ?_; (first | lia | omega)⟩
  rw [List.append_assoc]
  exact List.Perm.append_left F (i7 hi)
noncomputable def fB (kd:List Bool):Nat->Nat->Nat
 | 0,e=>e
 | n + 1,e=>if kd.getD e false=true then fB kd n (e + 1) else e
theorem oV {kd:List Bool}:∀{n e:Nat},e<=kd.length->e<=fB kd n e/\fB kd n e<=kd.length/\fB kd n e<=e + n/\∀i,e<=i->i < fB kd n e->kd.getD i false=true
 | 0,e,h=>⟨Nat.le_refl _,h,Nat.le_refl _,fun i a b=>by have b:i < e:=b; (first | lia | omega)⟩
 | n + 1,e,h=>by
  unfold fB
  by_cases c:kd.getD e false=true
  ·refine aa (if_pos c) ?_
   have l:e < kd.length:=by
    rcases Nat.lt_or_ge e kd.length with l | l
    ·exact l
    ·rw [List.getD_eq_getElem?_getD,List.getElem?_eq_none l] at c; exact bG c
   apply bc;intro ng
   obtain ⟨a,b,d,f⟩:=oV (n:=n) (e:=e + 1) l
   apply ng;clear ng
   refine ⟨by (first | lia | omega),b,by (first | lia | omega),fun i x y=>?_⟩
   rcases Nat.eq_or_lt_of_le x with rfl | x
   ·exact c
   ·exact f i x y
  ·refine aa (if_neg c) ?_
   exact ⟨Nat.le_refl _,h,by (first | lia | omega),fun i x y=>by (first | lia | omega)⟩
noncomputable def OW (h:Heap):Opq:=⟨h.get?,fun zw zw=>False,fun zw h=>h.elim,fun zw h=>h.elim⟩
section
variable {w:World} {A:Around} {gs:Array GenState} {dr:Drawn} {os:OsState} {h:Heap} {n:Nat}
theorem uZ (P:Params):al P 850=(al P 850).take 1++(.For (.Name (bh (cB (dQ P))) (aR (cB (dQ P)))) (.Subscript (ca (aQ (dQ P))) (.Slice none (some (MH (jK (aQ (dQ P))))) none (NC (jK (aQ (dQ P))))) (d6 (aQ (dQ P)))) (bf (dQ P)) [] (dQ P).pos::(al P 850).drop 2):=by kernel_rfl
theorem FF (P:Params):dN P 850=some (aY P 850):=by kernel_rfl
theorem xC (P:Params) (v:Value):aP (aY P 850) [.glb v]=some [(S' "script",.glb v)]:=by kernel_rfl
theorem Di (P:Params) (v:Value):(⟨[(S' "script",AV.glb v)].reverse.filter (fun x=>decide ((aY P 850).scope.names.lookup x.1=some .local)),(ae (aY P 850).scope.names).zip ((List.range (ae (aY P 850).scope.names).length).map (([]:List AO).length + ·)),[]++(ae (aY P 850).scope.names).map (fun n=>.cell ([(S' "script",AV.glb v)].reverse.lookup n)),[]⟩:St)=⟨[(S' "script",.glb v)],[],[],[]⟩:=by kernel_rfl
theorem AJ (P:Params) (v:Value):(bA P aA 10 (bm P 850) (ca (aQ (dQ P))) (EN v)).vc [] (.rt (.glb v)) (EN v) = .ok [.val v v,.val v v,.ie (.v 0) (.v 0)]:=by kernel_rfl
theorem BN (P:Params) (v:Value):(bA P aA 10 (bm P 850) (MH (jK (aQ (dQ P)))) (EN v)).vc [] (.rt (.int (.c 24))) (EN v) = .ok [.ie (.c 24) (.c 24),.val v v,.ie (.v 0) (.v 0)]:=by kernel_rfl
theorem DT (v:Value) (i:Nat):aM [0,1] ⟨(A9 v).ls,[],[.dead,.lit 0 i],[]⟩ ⟨(A9 v).ls,[],[.dead,.lit 0 i],[]⟩=some [.nat i i,.val v v,.ie (.v 0) (.v 0)]:=by kernel_rfl
noncomputable def bu (l:List Int):Rho:=⟨fun i=>l.getD i 0,GH,fun zw=>[]⟩
theorem pN {ns:List Int} {i:Nat} {c a:Int} (h:ns[i]? = some c):(ns.take (i + 1)).foldl dR a=dR ((ns.take i).foldl dR a) c:=by
 refine aa List.take_add_one (aa h ?_); simp
theorem rN (W:Wd w h) {l:Addr} {Vs:List Value} {ns:List Int} (L:At h.get? l (.lst Vs)) (I:IntsAre Vs ns) (hz:Vs.length<=1000) (R:Room A 14) {Q:Value->Shared->Prop} {E:Value->Shared->Prop}
  (q:∀h' n' z Us,h.StaysIn h'->h.get? z=none->At h'.get? z (.lst Us)->IntsAre Us [fy ns,0]->Q (.ref z) ⟨h',gs,dr,n',os⟩):wpAny (model pr w) A (call (.ref 850) [.ref l]) Q E ⟨h,gs,dr,n,os⟩:=by
 have HH:∀{l:List Int},H2 w (bu l) (OW h) aA 2:=H2.no (be.hb W)
 have C0:Co w (bu []) (OW h) h.get? h [] [] []:=Co.all W (fun zw zw e=>e) .nil
 refine go (R.le (m:=13 + 1) (by decide)) (FF w.params) (xC w.params (.ref l)) C0 (.cons rfl .nil) fun A' env h1 n1 as1 R1 esc p1 S1 E'=>?_
 refine cW fun Q' E' kq zw=>?_
 replace esc:env.scope=bm w.params 850:=esc
 replace R1:Room A' (10 + 2):=R1.le (by decide)
 rw [Di w.params (.ref l),p1.eq S1.sz] at S1
 refine aa (show (aY w.params 850).body=_ from uZ w.params) ?_
 refine aH (iT (ρ':=bu [0]) HH esc (yy w.params _) R1 S1 ⟨rfl,rfl⟩ fun h2 as2 n2 S2 p2=>?_)
 refine wpAny_execs_cons (wpAny_For (Subscript_ (qk (ρ':=bu [0]) HH esc (AJ w.params _) R1 S2 ⟨rfl,rfl,rfl⟩ fun V h3 as3 n3 S3 p3 dv=>?_)) (fun x=>rfl))
 have dv:V=_:=dv
 subst dv
 refine wpAny_Slice ?_
 rw [evalPart_none,evalPart_some]
 refine wpAny_pure (qk (ρ':=bu [0]) HH esc (BN w.params _) R1 S3 ⟨rfl,rfl,rfl⟩ fun U h4 as4 n4 S4 p4 du=>?_)
 have du:∃t,U = .int 24 t:=du
 apply bc;intro ng
 obtain ⟨t24,rfl⟩:=du
 apply ng;clear ng
 refine wpAny_pure ?_
 have l4:h4.IsList l Vs.toArray:=L.le fun o e=>S4.kp _ _ e
 have hp:(h4.push { cls:=.type "slice",data:=.fields #[.none,.int 24 t24,.none] }).IsList l Vs.toArray:=l4.push _
 have S5:=S4.stay (h':=h4.push { cls:=.type "slice",data:=.fields #[.none,.int 24 t24,.none] }) fun zw zw e=>Heap.get?_push_of_some _ e
 refine tail_any (ops:=[.ref h4.objs.size,.ref l]) (T:="list") (s:=⟨h4.push _,gs,dr,n4,os⟩) (Heap.IsList.typeIs (s:=⟨h4.push _,gs,dr,n4,os⟩) hp) list_getitem_lookup ?_ rfl
 refine wpAny_getItem_list_slice (s:=⟨h4.push _,gs,dr,n4,os⟩) hp (Heap.IsSliceOf.new ..) .none (.int _ _) .none (by simp) ?_ (by refine aa List.size_toArray (aa sizeLine_eq ?_); (first | decide | lia | omega))
 refine aa (mf (lo:=none) (hi:=some 24) trivial (show (0:Int)<=24 by (first | decide | lia | omega))) ?_
 have e24:slV Vs none (some 24)=Vs.take 24:=by unfold slV; simp
 refine aa e24 ?_
 generalize hH:h4.push { cls:=.type "slice",data:=.fields #[.none,.int 24 t24,.none] }=H5 at S5
 show wpAny _ _ _ _ _ ⟨H5.push _,gs,dr,n4,os⟩
 have S6:=S5.stay (h':=H5.push { cls:=.type "list",data:=.seq (Vs.take 24).toArray }) fun zw zw e=>Heap.get?_push_of_some _ e
 have g6:h.get? H5.objs.size=none:=by
  induction q:h.get? H5.objs.size with
  | none=>rfl
  | some x=>exact absurd (Heap.lt_size (S5.kp _ _ q)) (Nat.lt_irrefl _)
 apply bc;intro ng
 obtain ⟨fL,NL,_⟩:=S5.lc
 apply ng;clear ng
 have off6:jE [H5.objs.size] env.locals [] []:=fun a m=>by
  refine aa (List.mem_singleton.mp m) ?_
  exact ⟨Nat.ne_of_gt NL.lt,fun i o e=>by simp at e⟩
 have fr6:∀a∈[H5.objs.size],h.get? a=none:=fun a m=>by refine aa (List.mem_singleton.mp m) ?_; exact g6
 have up:=be.add (h:=H5.push { cls:=.type "list",data:=.seq (Vs.take 24).toArray }) fr6
 have S7:=S6.pin off6 fr6
 have hl:At (Gr.add h.get? (H5.push { cls:=.type "list",data:=.seq (Vs.take 24).toArray }) [H5.objs.size]) H5.objs.size (.lst (Vs.take 24)):=⟨_,by unfold Gr.add; refine aa (if_pos (.head _)) ?_; exact Heap.get?_push_size _ rfl,rfl,_,rfl⟩
 have hl2:(H5.push { cls:=.type "list",data:=.seq (Vs.take 24).toArray }).IsList H5.objs.size (Vs.take 24).toArray:=⟨_,Heap.get?_push_size _ rfl,rfl,_,rfl⟩
 generalize Gr.add h.get? (H5.push { cls:=.type "list",data:=.seq (Vs.take 24).toArray }) [H5.objs.size]=G7 at S7 hl up
 generalize H5.push { cls:=.type "list",data:=.seq (Vs.take 24).toArray }=H6 at S7 hl2
 generalize H5.objs.size=l2 at hl hl2
 have S8:=S7.tie (ao:=.dead) l2 rfl trivial
 refine wpAny_pyIter_list (s:=⟨H6,gs,dr,n4,os⟩) hl2 ?_
 have S9:=S8.push { cls:=.type "list_iterator",data:=.fields #[.ref l2,rawInt 0] } (ao:=.lit 0 0) ⟨l2,rfl,_,Heap.get?_push_size _ rfl,rfl,rfl⟩
 have I24:IntsAre (Vs.take 24) (ns.take 24):=I.take 24
 have HH7:∀{l:List Int},H2 w (bu l) (OW h) aA 2:=HH
 refine vF R1 (as:=[l2,H6.objs.size]) (m:=1) (j:=0) hl rfl rfl (fun i=>bu [((ns.take 24).take i).foldl dR 0]) (fun i=>⟨(A9 (.ref l)).ls,[],[.dead,.lit 0 i],[]⟩) (fun zw=>rfl) (fun i h6 n6 V hV S Q2 E1 E2 q2=>?_) (fun h6 n6 S=>?_) S9
 ·apply bc;intro ng
  obtain ⟨c,t,eV,hc⟩:=I24.at i V hV
  rw [eV] at ng
  have Sr:=S.re (s':=⟨(A9 (.ref l)).ls,[],[.dead,.lit 0 (i + 1)],[]⟩) (ρ':=bu [((ns.take 24).take i).foldl dR 0,c]) [0,1] (DT _ _) ⟨rfl,rfl,rfl⟩
  refine ng (tV (ρ':=bu [((ns.take 24).take (i + 1)).foldl dR 0]) (v:=.int (.v 1)) HH esc (xN w.params _ _) R1 Sr ⟨t,rfl⟩ ?_ fun F h7 as7 n7 hF S7 p7=>?_)
  ·refine aa (pN hc) ?_
   refine ⟨fun hlt=>⟨rfl,rfl,?_⟩,fun hlt=>⟨rfl,rfl,?_⟩⟩
   ·have hlt:c < 0:=hlt
    show _=dR _ _
    unfold dR; refine aa (if_pos hlt) (aa (if_pos hlt) ?_)
    show _ * _ + (if c < 0 then -c else c) % _ * _ + _=_
    refine aa (if_pos hlt) ?_; rfl
   ·have hlt:¬c < 0:=hlt
    show _=dR _ _
    unfold dR; refine aa (if_neg hlt) (aa (if_neg hlt) ?_)
    show _ * _ + (if c < 0 then -c else c) % _ * _ + _=_
    refine aa (if_neg hlt) ?_; rfl
  ·obtain ⟨t,rfl⟩:=p7
   exact q2 _ _ _ hF S7
 ·have e:((ns.take 24).take (Vs.take 24).length).foldl dR 0=fy ns:=by
   refine aa I24.length (aa List.take_length ?_); rfl
  rw [e] at S
  refine ua (ρ':=bu [fy ns]) HH esc (wR w.params (.ref l)) R1 S ⟨rfl,rfl⟩ fun V h7 as7 n7 S7 p7 dv=>?_
  apply bc;intro ng
  obtain ⟨z,ez,eV⟩:=dv
  obtain ⟨⟨Us,a1,a2⟩,ow⟩:=S7.ob 0 _ z rfl ez
  rw [eV] at ng
  refine ng (kq _ _ (q h7 n7 z Us (fun b o e=>S7.kp _ _ (up b o e)) ?_ a2 (dK (es:=[.v 0,.c 0]) a1)))
  induction qz:h.get? z with
  | none=>rfl
  | some o=>exact ap ((ow rfl).2.symm.trans (up z o qz))
end
section
variable {w:World} {ρ ρ':Rho} {O:Opq} {d:Nat} {A:Around} {gs:Array GenState} {dr:Drawn} {os:OsState} {G:Gr} {env:Env} {hk:Hk} {n0 r0:Nat} {s s':St} {vc:VC} {m:List Nat} {sc:Scope} {h:Heap} {n:Nat} {as as2:List Addr}
theorem _root_.Mine.All2.rel {α α' β:Type} {R:α->β->Prop} {R':α'->β->Prop} {l:List α} {l':List α'} {m:List β} (x:All2 R l m) (f:All2 (fun a a'=>∀b,R a b->R' a' b) l l'):All2 R' l' m:=by
 induction f generalizing m with
 | nil=>refine aa x.n ?_; exact .nil
 | cons k _ ih =>
  apply bc;intro ng
  obtain ⟨b,r,e,h,t⟩:=x.c
  exact ng (e▸.cons (k b h) (ih t))
theorem qr (H:H2 w ρ O hk r0) {e:Expr} {v:AV} (hsc:env.scope=sc) (ev:(bA w.params hk n0 sc e s).vc m (.rt v) s'=vc) {Q:Value->Shared->Prop} {E:Value->Shared->Prop} (R:Room A (n0 + r0)) (S:SR w ρ O G env h s as) (hm:m.all (fun j=>Nat.ble (j + 1) as.length)=true) (ha:(m.map fun j=>as.getD j 0)=as2) (y:vc.den ρ ρ')
  (q:∀V h' n',SR w ρ' O G env h' s' as2->Dn ρ' as2 v V->Q V ⟨h',gs,dr,n',os⟩):wpAny (model pr w) A (eval e env) Q E ⟨h,gs,dr,n,os⟩ :=
 qk H hsc ev R S y fun V h' as' n' S' p dv=>q V h' n' (ha▸di p hm▸S') (ha▸di p hm▸dv)
theorem zW (H:H2 w ρ O hk r0) {bs:List Stmt} (hsc:env.scope=sc) (e:(cx w.params hk n0 sc bs s).vc m .nx s'=vc) {Q:Flow->Shared->Prop} {E:Value->Shared->Prop} (R:Room A (n0 + r0)) (S:SR w ρ O G env h s as) (hm:m.all (fun j=>Nat.ble (j + 1) as.length)=true) (ha:(m.map fun j=>as.getD j 0)=as2) (y:vc.den ρ ρ')
  (q:∀h' n',SR w ρ' O G env h' s' as2->Q .next ⟨h',gs,dr,n',os⟩):wpAny (model pr w) A (execs bs env) Q E ⟨h,gs,dr,n,os⟩ :=
 iT H hsc e R S y fun h' as' n' S' p=>q h' n' (ha▸di p hm▸S')
theorem sG (H:H2 w ρ O hk r0) {e:Expr} {v:AV} (hsc:env.scope=sc) (ev:bA w.params hk n0 sc e s = .leaf (.rt v) s') {Q:Value->Shared->Prop} {E:Value->Shared->Prop} (R:Room A (n0 + r0)) (S:SR w ρ O G env h s as)
  (q:∀V h' as' n',SR w ρ O G env h' s' as'->Pre as as'->Dn ρ as' v V->Q V ⟨h',gs,dr,n',os⟩):wpAny (model pr w) A (eval e env) Q E ⟨h,gs,dr,n,os⟩:=by
 have y:(bA w.params hk n0 env.scope e s).ok ρ fun f s''=>f = .rt v/\s''=s':=by refine aa hsc (aa ev ?_); exact ⟨rfl,rfl⟩
 unfold bA at y
 exact (H.run n0).E R y S fun u V s3 h3 as3 n3 y S3 p3 du=>q V h3 as3 n3 (y.2▸S3.pcs (pc:=[]) fun zw m=>nomatch m) p3 (Fl.rt.inj y.1▸du)
theorem M0 (H:H2 w ρ O hk r0) {e:Expr} {whole:Sem Value} {ce:CE} (hsc:env.scope=sc) (ev:lG w.params hk n0 sc e s = .br ce (.leaf (.rt (.bool true)) s) (.leaf (.rt (.bool false)) s)) {Q:Bool->Shared->Prop} {E:Value->Shared->Prop} (R:Room A (n0 + r0)) (S:SR w ρ O G env h s as) (hw:eH e=true->whole=eval e env)
  {p:Bool} (hp:ce.den ρ↔p=true) (q:∀h' n',SR w ρ O G env h' s as->Q p ⟨h',gs,dr,n',os⟩):wpAny (model pr w) A (isTrue e env whole) Q E ⟨h,gs,dr,n,os⟩ :=
 rX H hsc ev R S hw ⟨fun c b h' as' n' e S' pp=>by
   have e:Fl.rt (.bool true)=Fl.rt (.bool b):=e
   refine aa (Eq.symm (AV.bool.inj (Fl.rt.inj e))) (aa (Eq.symm (hp.mp c)) ?_); exact q h' n' (S.same S' pp rfl▸S'),
  fun c b h' as' n' e S' pp=>by
   have e:Fl.rt (.bool false)=Fl.rt (.bool b):=e
   refine aa (Eq.symm (AV.bool.inj (Fl.rt.inj e))) (aa (Eq.symm (Bool.eq_false_iff.mpr fun z=>c (hp.mpr z))) ?_); exact q h' n' (S.same S' pp rfl▸S')⟩
theorem _root_.Mine.Room.u {k:Nat} (R:Room A k):A.units < cLine:=Nat.lt_of_le_of_lt (Nat.le_trans (Nat.le_add_right _ _) (Nat.le_add_right _ _)) R.un
theorem FK {y:Addr}:G1 h y y=none:=if_pos rfl
theorem gS {y a:Addr} (n:a≠y):G1 h y a=h.get? a:=if_neg n
theorem Dt {y:Addr}:∀a o,G1 h y a=some o->h.get? a=some o:=fun a o e=>by
 by_cases q:a=y
 ·exact ap ((if_pos q).symm.trans e)
 ·exact (gS q).symm.trans e
theorem zH {y:Addr} {g:Gr} (q:be (G1 h y) g):∀b o,b≠y->h.get? b=some o->g b=some o:=fun b o n e=>q b o ((gS n).trans e)
theorem oI:∀{l:List AO},l.countP AO.own<=1->∀{i j:Nat} {o o':AO},l[i]? = some o->l[j]? = some o'->o.own=true->o'.own=true->i=j
 | [],_,_,_,_,_,e,_,_,_=>ap e
 | a::l,c,i,j,o,o',e,e',w,w'=>by
  have no:a.own=true->∀{k:Nat} {o:AO},l[k]? = some o->o.own=true->False:=fun wa k o e w=>by
   rw [List.countP_cons_of_pos wa] at c
   exact Nat.not_lt.mpr (Nat.le_of_succ_le_succ c) (List.countP_pos_iff.mpr ⟨o,List.mem_of_getElem? e,w⟩)
  cases i with
  | zero=>cases j with
   | zero=>rfl
   | succ j=>exact (no (aG e▸w) e' w').elim
  | succ i=>cases j with
   | zero=>exact (no (aG e'▸w') e w).elim
   | succ j =>
    refine congrArg (· + 1) (oI (Nat.le_trans ?_ c) e e' w w')
    refine aa List.countP_cons ?_; exact Nat.le_add_right _ _
theorem Co.one {y:Addr} {ob:List AO} {as:List Addr} (B:gV w (G1 h y)) (og:∀a o,O.g a=some o->G1 h y a=some o) (c:Nat.ble (ob.countP AO.own) 1=true) (x:All2 (fun a o=>aC ρ O as h a o/\(o.own=true->a=y)) as ob):Co w ρ O (G1 h y) h ob [] as:=by
 refine ⟨B,Dt,og,x.len,fun i o a eo ea=>?_,fun i j o o' a e1 e2 w1 w2 zw zw=>oI (Nat.le_of_ble_eq_true c) e1 e2 w1 w2,fun zw m=>nomatch m⟩
 let ⟨o',z1,z2,z3⟩:=x.get ea
 have eo:o=o':=aG (eo.symm.trans z1)
 exact ⟨eo▸z2,fun ow=>by refine aa (z3 (eo▸ow)) ?_; exact FK⟩
end
noncomputable def cV (vs:List Int) (ls:Nat->List Int):Rho:=⟨fun i=>vs.getD i 0,fun k a b c=>match k with | 900=>((ls a.toNat).length:Int) | k=>GH k a b c,ls⟩
noncomputable def CJ (Z L F L' F':List Int):Nat->List Int | 1=>Z | 3=>L | 4=>F | 5=>L' | 6=>F' | _=>[]
noncomputable def OR (g:Gr):Opq:=⟨g,fun zw zw=>False,fun zw h=>h.elim,fun zw h=>h.elim⟩
section
variable {w:World} {ρ:Rho} {O:Opq} {G:Gr} {env:Env} {A:Around} {gs:Array GenState} {dr:Drawn} {os:OsState} {h:Heap} {n:Nat} {Er:Value->Shared->Prop}
theorem Iq {o e:Expr} {name:Str} {id:String} {apos pos:Pos} {st:Shared} {Q:Value->Shared->Prop} (c1:(apos.endLine == pos.line)=true) (c3:cr o=false) (c4:aK e=false) (slot:Slot "list" name id) (hty:typeOf (.builtin id)=pure (.type "method_descriptor"))
  (q:wpAny (model pr w) A (eval o env) (fun V s₁=>∃l items,V = .ref l/\s₁.heap.PlainList l items/\wpAny (model pr w) A (callWith pos (.builtin id) [.ref l] [(false,eval e env)] []) Q Er s₁) Er st) :
  wpAny (model pr w) A (eval (.Call (.Attribute o name apos) [e] [] pos) env) Q Er st:=by
 show wpAny (model pr w) A (do
  let ov <- attributeBase o name env (eval o env)
  standAt apos.atName
  methodCall o name apos pos env ov (1 + 0) (backTo pos (starEach [e] env)) []) Q Er _
 refine aa (eR c3) ?_
 refine wpAny_bind (wpAny_mono q (fun V s₁ z=>?_) fun zw zw z=>z)
 apply bc;intro ng
 obtain ⟨l,items,rfl,⟨m,pl⟩,z⟩:=z
 apply ng;clear ng
 refine wpAny_bind (wpAny_standAt ?_)
 have ev:backTo pos (starEach [e] env) = [(false,eval e env)]:=by refine aa (aV c4) ?_; rfl
 refine aa ev ?_
 unfold methodCall
 refine aa (show methodCallForm (1 + 0) [(false,eval e env)] []=true from rfl) ?_
 refine wpAny_bind (wpAny_holding (getMethod_list_of slot hty (items:=items) ⟨_,pl,rfl,m,rfl⟩ ?_ ?_))
 ·exact ⟨_,pl,rfl⟩
 refine wpAny_bind (wpAny_of_eq (show methodCallPos true o env apos pos=pure pos from ?_) z)
 unfold methodCallPos; refine aa c1 ?_; simp
theorem uY (P:Params):al P 878=(al P 878).take 1++(.While (cg (jY P)) (ug (jY P)) [] (rd (jY P))::(al P 878).drop 2):=by kernel_rfl
theorem AE (P:Params):ug (jY P) = [.Expr (.Call (.Attribute (ca (ax (cg (kF P)))) (S' "append") (d6 (ax (cg (kF P))))) [.Call (.Attribute (ca (ax (bq (cg (kF P))))) (S' "pop") (d6 (ax (bq (cg (kF P)))))) [bq (bq (cg (kF P)))] [] (cf (bq (cg (kF P))))] [] (cf (cg (kF P)))) (rd (kF P))]:=by kernel_rfl
theorem Bh (P:Params):((d6 (ax (cg (kF P)))).endLine == (cf (cg (kF P))).line)=true/\((d6 (ax (bq (cg (kF P))))).endLine == (cf (bq (cg (kF P)))).line)=true/\cr (ca (ax (cg (kF P))))=false/\cr (ca (ax (bq (cg (kF P)))))=false/\aK (bq (bq (cg (kF P))))=false:=⟨by kernel_rfl,by kernel_rfl,by kernel_rfl,by kernel_rfl,by kernel_rfl⟩
theorem Fy (P:Params):dN P 878=some (aY P 878):=by kernel_rfl
theorem wH (P:Params):aP (aY P 878) [.loc 0,.loc 1]=some [(S' "heap",.loc 0),(S' "items",.loc 1)]:=by kernel_rfl
noncomputable def Iu:List AO:=[.lst [.int (.v 0),.int (.v 1)],.fz (.rf 1)]
theorem Fm (P:Params):(⟨[(S' "heap",AV.loc 0),(S' "items",AV.loc 1)].reverse.filter (fun x=>decide ((aY P 878).scope.names.lookup x.1=some .local)),(ae (aY P 878).scope.names).zip ((List.range (ae (aY P 878).scope.names).length).map (Iu.length + ·)),Iu++(ae (aY P 878).scope.names).map (fun n=>.cell ([(S' "heap",AV.loc 0),(S' "items",AV.loc 1)].reverse.lookup n)),[]⟩:St)=⟨[(S' "items",.loc 1),(S' "heap",.loc 0)],[],[.lst [.int (.v 0),.int (.v 1)],.fz (.rf 1)],[]⟩:=by kernel_rfl
theorem Ii (P:Params):lG P fF 12 (bm P 878) (cg (jY P)) (kh (.rf 4)) = .br (.emp 3) (.leaf (.rt (.bool false)) ⟨m4,[],[.lst [.int (.v 0),.int (.v 1)],.rf 3,.rf 4,.pl []],[]⟩) (.leaf (.rt (.bool true)) ⟨m4,[],[.lst [.int (.v 0),.int (.v 1)],.rf 3,.rf 4,.pl []],[]⟩):=by kernel_rfl
theorem C8 (P:Params):(bA P fF 12 (bm P 878) (ca (ax (cg (kF P)))) (kh (.rf 4))).vc [0,1,2] (.rt (.loc 2)) (kh (.rf 4)) = .ok [.ie (.v 0) (.v 0),.ie (.v 1) (.v 1),.rf 3 3,.rf 4 4]:=by kernel_rfl
theorem DZ (P:Params):(bA P fF 12 (bm P 878) (ca (ax (bq (cg (kF P))))) (kh (.rf 4))).vc [0,1,2] (.rt (.loc 1)) (kh (.rf 4)) = .ok [.ie (.v 0) (.v 0),.ie (.v 1) (.v 1),.rf 3 3,.rf 4 4]:=by kernel_rfl
theorem EQ:aM [0,1,2] ⟨m4,[],[.lst [.int (.v 0),.int (.v 1)],.rf 3,.rf 4,.pl []],[]⟩ (kh (.rf 4))=some [.ie (.v 0) (.v 0),.ie (.v 1) (.v 1),.rf 3 3,.rf 4 4]:=by kernel_rfl
theorem D9:aM [0,1,2] ⟨m4,[],[.lst [.int (.v 2),.int (.v 3)],.rf 5,.rf 6],[]⟩ (kh (.rf 4))=some [.ie (.v 2) (.v 0),.ie (.v 3) (.v 1),.rf 5 3,.rf 6 4]:=by kernel_rfl
theorem zU {f:Int->Value}:∀(l:List Int) (i:Nat),(l.map f).toArray.eraseIdxIfInBounds i=((l.eraseIdx i).map f).toArray:=fun l i=>by
 rw [List.eraseIdxIfInBounds_toArray]
 congr 1
 induction l generalizing i with
 | nil=>rfl
 | cons a r ih=>cases i with | zero=>rfl | succ i=>exact congrArg (f a :: ·) (ih i)
noncomputable def oM (x c:Int) (L F:List Int):Rho:=cV [x,c] (CJ [] L F [] [])
section
variable {x c:Int} {L F:List Int} {y la fa:Addr} {E:Value->Shared->Prop}
theorem Ih (HH:∀{vs ls},H2 w (cV vs ls) (OR G) fF 40) (esc:env.scope=bm w.params 878) (R:Room A (12 + 40)) (S:SR w (oM x c L F) (OR G) G env h (kh (.rf 4)) [y,la,fa]) {Q:Bool->Shared->Prop}
  (q:∀b,(L = []↔b=false)->∀h' n',SR w (oM x c L F) (OR G) G env h' (kh (.rf 4)) [y,la,fa]->Q b ⟨h',gs,dr,n',os⟩):wpAny (model pr w) A (isTrue (cg (jY w.params)) env (eval (cg (jY w.params)) env)) Q E ⟨h,gs,dr,n,os⟩:=by
 have k:∀b,(L = []↔b=false)->∀d h' as' n',Fl.rt (.bool b) = .rt (.bool d)->SR w (oM x c L F) (OR G) G env h' ⟨m4,[],[.lst [.int (.v 0),.int (.v 1)],.rf 3,.rf 4,.pl []],[]⟩ as'->Pre [y,la,fa] as'->Q d ⟨h',gs,dr,n',os⟩:=fun b hb d h' as' n' e S p=>by
  obtain ⟨t,rfl⟩:=p
  refine aa (Eq.symm (AV.bool.inj (Fl.rt.inj e))) ?_
  exact q b hb h' n' (S.re (s':=kh (.rf 4)) (ρ':=oM x c L F) [0,1,2] EQ ⟨rfl,rfl,rfl,rfl⟩)
 exact rX HH esc (Ii w.params) R S (fun zw=>rfl) ⟨fun hE=>k false (iff_of_true hE rfl),fun hE=>k true (iff_of_false hE nofun)⟩
theorem ye (HH:∀{vs ls},H2 w (cV vs ls) (OR G) fF 40) (esc:env.scope=bm w.params 878) (R:Room A (12 + 40)) (S:SR w (oM x c L F) (OR G) G env h (kh (.rf 4)) [y,la,fa]) (hL:0 < L.length) (hz:F.length + L.length<=100) (hc:0<=c) (hc2:c < 1000000) {Q:Flow->Shared->Prop}
  (q:∀h' n',SR w (oM (bY x c L.length) (c + 1) (L.eraseIdx (bt x c L.length).toNat) (F++[L.getD (bt x c L.length).toNat 0])) (OR G) G env h' (kh (.rf 4)) [y,la,fa]->Q .next ⟨h',gs,dr,n',os⟩):wpAny (model pr w) A (execs (ug (jY w.params)) env) Q E ⟨h,gs,dr,n,os⟩:=by
 have bi:=bC (a:=x) (c:=c) (m:=L.length) (Int.ofNat_lt.mpr hL)
 have ei:bt x c L.length=((bt x c L.length).toNat:Nat):=(Int.toNat_of_nonneg bi.1).symm
 have hlt:(bt x c L.length).toNat < L.length:=Int.ofNat_lt.mp (ei▸bi.2)
 apply bc;intro ng
 obtain ⟨p1,p2,p3,p4,p5⟩:=Bh w.params
 rw [AE] at ng
 refine ng (wpAny_execs_cons (wpAny_Expr_any (Iq p1 p3 rfl PySem.F.slot_list_append PySem.F.type_list_append (qr (ρ':=oM x c L F) HH esc (C8 w.params) R S rfl (as2:=[y,la,fa]) rfl ⟨rfl,rfl,rfl,rfl⟩ fun V h6 n6 S6 dv=>?_)) (by unfold interactive; refine aa S.ek ?_; rfl) rfl)); clear ng
 have pf:At h6.get? fa (.pl (F.map ak)):=(S6.ob 2 _ fa rfl rfl).1
 refine ⟨fa,_,cA dv rfl,(let ⟨o,e1,n1,e2⟩:=pf; ⟨n1,e2▸e1⟩),P.append_list (Iq p2 p4 p5 PySem.F.slot_list_pop PySem.F.type_list_pop (qr (ρ':=oM x c L F) HH esc (DZ w.params) R S6 rfl (as2:=[y,la,fa]) rfl ⟨rfl,rfl,rfl,rfl⟩ fun V h7 n7 S7 dv=>?_))⟩
 have pl:At h7.get? la (.pl (L.map ak)):=(S7.ob 1 _ la rfl rfl).1
 refine ⟨la,_,cA dv rfl,(let ⟨o,e1,n1,e2⟩:=pl; ⟨n1,e2▸e1⟩),P.pop_at_list (qr (ρ':=cV [x,c,bY x c L.length,c + 1,bt x c L.length] (CJ [] L F (L.eraseIdx (bt x c L.length).toNat) (F++[L.getD (bt x c L.length).toNat 0]))) HH esc (xP w.params) R S7 rfl (as2:=[y,la,fa]) rfl ?_ fun V h8 n8 S8 dv=>?_)⟩
 ·exact ⟨⟨rfl,show L.length<=1000 by omega⟩,show (0:Int) < L.length by omega,show (L.length:Int) < 1000000 by omega,hc,hc2,rfl,rfl,rfl,rfl,rfl⟩
 apply bc;intro ng
 obtain ⟨ti,ev⟩:=dv
 obtain ⟨ol,f1,nl,e1⟩:At h8.get? la (.pl (L.map ak)):=(S8.ob 1 _ la rfl rfl).1
 subst e1
 have il:IsL h8 la (L.map ak).toArray nl:=f1
 have S9:=S8.obj (o':=.rf 5) (j:=1) rfl rfl rfl (Heap.SameBut.update h8 la (Obj.mapSeq fun xs=>xs.eraseIdxIfInBounds (bt x c L.length).toNat)) ⟨_,il.update _,_,by rw [zU]; rfl⟩
 obtain ⟨of,f2,nf,e2⟩:At (h8.update la (Obj.mapSeq fun xs=>xs.eraseIdxIfInBounds (bt x c L.length).toNat)).get? fa (.pl (F.map ak)):=(S9.ob 2 _ fa rfl rfl).1
 subst e2
 have il2:IsL _ fa (F.map ak).toArray nf:=f2
 have ep:((F.map ak).toArray.push (ak (L.getD (bt x c L.length).toNat 0)))=((F++[L.getD (bt x c L.length).toNat 0]).map ak).toArray:=by rw [List.push_toArray,List.map_append]; rfl
 have S10:=S9.obj (o':=.rf 6) (j:=2) rfl rfl rfl (Heap.SameBut.update _ fa (Obj.mapSeq fun xs=>xs.push (ak (L.getD (bt x c L.length).toNat 0)))) ⟨_,il2.update _,_,by refine aa ep ?_; rfl⟩
 have S11:=S10.re (s':=kh (.rf 4)) (ρ':=oM (bY x c L.length) (c + 1) (L.eraseIdx (bt x c L.length).toNat) (F++[L.getD (bt x c L.length).toNat 0])) [0,1,2] D9 ⟨rfl,rfl,rfl,rfl⟩
 have sz:(L.map ak).toArray.size=L.length:=by rw [List.size_toArray,List.length_map]
 have zf:(F.map ak).toArray.size=F.length:=by rw [List.size_toArray,List.length_map]
 refine ng ⟨_,nl,bt x c L.length,ti,(bt x c L.length).toNat,ak (L.getD (bt x c L.length).toNat 0),by refine aa sz (aa sizeLine_eq ?_); omega,ev,il,?_,?_,?_,_,nf,?_,il2,wpAny_execs_nil (q _ _ S11)⟩
 ·unfold Builtin.List.listFitsIndex; simp; omega
 ·unfold seqIndex?; simp; omega
 ·simp [hlt]
 ·refine aa zf (aa sizeLine_eq ?_); omega
theorem Al (HH:∀{vs ls},H2 w (cV vs ls) (OR G) fF 40) (esc:env.scope=bm w.params 878) (R:Room A (12 + 40)) (S:SR w (oM x c [] F) (OR G) G env h (kh (.rf 4)) [y,la,fa]) {Q:Flow->Shared->Prop}
  (q:∀h' n' z Ys,(∀b o,G b=some o->h'.get? b=some o)->At h'.get? y (.lst Ys)->IntsAre Ys [x,c]->G z=none->z≠y->At h'.get? z (.pl (F.map ak))->Q (.ret (.ref z)) ⟨h',gs,dr,n',os⟩) :
  wpAny (model pr w) A (execs ((al w.params 878).drop 2) env) Q E ⟨h,gs,dr,n,os⟩:=by
 refine ua (ρ':=oM x c [] F) HH esc (xd w.params) R S ⟨rfl,rfl,rfl⟩ fun V h6 as6 n6 S6 p6 dv=>?_
 apply bc;intro ng
 obtain ⟨t,rfl⟩:=p6
 obtain ⟨u1,ow⟩:=S6.ob 1 _ _ rfl rfl
 obtain ⟨⟨Ys,v1,v2⟩,ow2⟩:=S6.ob 0 _ y rfl rfl
 rw [cA dv rfl] at ng
 exact ng (q h6 n6 _ Ys S6.kp v2 (dK (es:=[.v 0,.v 1]) v1) (ow rfl).2 (fun e=>absurd (S6.nd 0 1 _ _ y rfl rfl rfl rfl rfl (congrArg some e)) (by decide)) u1)
end
def MS (w:World) (G:Gr) (x c:Int) (Z:List Int) (y la fa:Addr) (env:Env) (gs:Array GenState) (dr:Drawn) (os:OsState) (k:Nat) (st:Shared):Prop:=∃x' c' L F h3 n,L.length=k/\st=⟨h3,gs,dr,n,os⟩/\SR w (oM x' c' L F) (OR G) G env h3 (kh (.rf 4)) [y,la,fa]/\fR k x' c' L F=fR Z.length x c Z []/\F.length + k<=100/\0<=c'/\c' + k<=990100
theorem yd {y a:Addr} {Vs:List Value} {x c:Int} {Z:List Int} (B:gV w (G1 h y)) (L:At h.get? y (.lst Vs)) (hi:IntsAre Vs [x,c]) (I:At h.get? a (.pl (Z.map ak))) (hay:a≠y) (hz:Z.length<=100) (hc:0<=c/\c<=990000) (R:Room A 60) {Q:Value->Shared->Prop} {E:Value->Shared->Prop}
  (q:∀h' n' z Vs',(∀b o,b≠y->h.get? b=some o->h'.get? b=some o)->At h'.get? y (.lst Vs')->IntsAre Vs' [(fR Z.length x c Z []).2.1,(fR Z.length x c Z []).2.2]->h.get? z=none->At h'.get? z (.pl ((fR Z.length x c Z []).1.map ak))->Q (.ref z) ⟨h',gs,dr,n',os⟩) :
  wpAny (model pr w) A (call (.ref 878) [.ref y,.ref a]) Q E ⟨h,gs,dr,n,os⟩:=by
 apply bc;intro ng
 apply bc;intro ng
 obtain ⟨t0,t1,eV⟩:=jz hi
 apply ng;clear ng
 have HH:∀{vs ls},H2 w (cV vs ls) (OR (G1 h y)) fF 40:=⟨B,by decide,eD rfl rfl⟩
 have C0:Co w (cV [x,c] (CJ Z [] [] [] [])) (OR (G1 h y)) (G1 h y) h Iu [] [y,a] :=
  Co.one B (fun zw zw e=>e) rfl (.cons ⟨⟨_,.cons ⟨t0,rfl⟩ (.cons ⟨t1,rfl⟩ .nil),eV▸L⟩,fun zw=>rfl⟩ (.cons ⟨I.le fun o e=>(gS hay).trans e,nofun⟩ .nil))
 refine ng (go (R.le (m:=52 + 1) (by decide)) (Fy w.params) (wH w.params) C0 (.cons ⟨y,rfl,rfl⟩ (.cons ⟨a,rfl,rfl⟩ .nil)) fun A' env h1 n1 as1 R1 esc p1 S1 E'=>?_); clear ng
 refine cW fun Q' E' kq zw=>?_
 replace esc:env.scope=bm w.params 878:=esc
 replace R1:Room A' (12 + 40):=R1
 rw [Fm w.params,p1.eq S1.sz] at S1
 refine aa (show (aY w.params 878).body=_ from uY w.params) ?_
 refine aH (iT (ρ':=oM x c Z []) HH esc (wD w.params) R1 S1 ⟨show Z.length + 0<=1000 by omega,rfl,rfl,rfl⟩ fun h2 as2 n2 S2 p2=>?_)
 apply bc;intro ng
 apply bc;intro ng
 obtain ⟨t,rfl⟩:=p2
 obtain ⟨b,eb,⟨Us,u1,u2⟩,-⟩:=S2.get (i:=2) rfl
 apply ng;clear ng
 rw [u1.n] at u2
 have S3:SR w (oM x c Z []) (OR (G1 h y)) (G1 h y) env h2 (kh (.rf 4)) [y,t.getD 0 0,t.getD 1 0]:=S2.obj (o':=.rf 4) rfl rfl eb ⟨rfl,fun zw zw=>rfl⟩ u2
 refine ng (wpAny_execs_cons (wpAny_While (codeAny_whileLoop (MS w (G1 h y) x c Z y (t.getD 0 0) (t.getD 1 0) env gs dr os) (fun k st i=>cW fun Q2 zw kq2 zw=>?_) Z.length ⟨x,c,Z,[],h2,n2,rfl,rfl,S3,rfl,(by simpa using hz),hc.1,by omega⟩))); clear ng
 apply bc;intro ng
 obtain ⟨x',c',L,F,h3,n3,hk,rfl,S,em,b1,b2,b3⟩:=i
 apply ng;clear ng
 refine Ih HH esc R1 S fun b hb h4 n4 S4=>kq2 _ _ ?_
 induction b with
 | false =>
  have hE:L = []:=hb.mpr rfl
  apply bc;intro ng
  subst hE
  subst hk
  apply ng;clear ng
  refine aa (if_neg Bool.false_ne_true) ?_
  refine wpAny_execs_nil (Al HH esc R1 S4 fun h6 n6 z Ys k6 v2 iv gz zy u1=>kq _ _ (q h6 n6 z Ys (zH k6) v2 ?_ ((gS zy).symm.trans gz) ?_))
  ·refine aa (Eq.symm em) ?_; exact iv
  ·refine aa (Eq.symm em) ?_; exact u1
 | true =>
  have hL:0 < L.length:=List.length_pos_iff.mpr fun z=>nomatch hb.mp z
  have bi:=bC (a:=x') (c:=c') (m:=L.length) (Int.ofNat_lt.mpr hL)
  cases k with
  | zero=>omega
  | succ k =>
  refine aa (if_pos rfl) ?_
  refine ye HH esc R1 S4 hL (by omega) b2 (by omega) fun h5 n5 S5=>⟨k,Nat.lt_succ_self _,_,_,_,_,h5,n5,?_,rfl,S5,?_,by refine aa List.length_append (aa List.length_singleton ?_); omega,by omega,by omega⟩
  ·refine aa (List.length_eraseIdx_of_lt (by omega)) (aa hk ?_); rfl
  ·refine aa (Eq.symm em) ?_; rfl
end
section
variable {w:World} {A:Around} {gs:Array GenState} {dr:Drawn} {os:OsState} {h:Heap} {n:Nat} {g:Gr} {F:List Addr}
theorem Be (P:Params) (k:Nk):Ml P k = .leaf (.rt (.bool k.run)) bW:=by induction k using Nk.casesOn <;> kernel_rfl
noncomputable def Dx (P:Params):Expr:=.Compare (.Attribute (.Subscript (ca (ca (mJ P))) (jK (ca (mJ P))) (d6 (ca (mJ P)))) (S' "kind") (d6 (mJ P))) [.NotEq] [FZ (iU 1 (cg (dT P)))] (iU 1 (cg (dT P))).pos
noncomputable def EB (P:Params):Expr:=.BoolOp .And [iU 0 (cg (dT P)),Dx P,iU 2 (cg (dT P))] (uU (cg (dT P)))
theorem xk (P:Params):al P 892=(al P 892).take 2++(.While (EB P) (ug (dT P)) [] (rd (dT P))::(al P 892).drop 3):=by kernel_rfl
theorem Ej (P:Params):cu (jK (ca (mJ P)))=false/\behindInMarks .NotEq (FZ (iU 1 (cg (dT P))))=false:=⟨by kernel_rfl,by kernel_rfl⟩
theorem Dk (P:Params):dN P 892=some (aY P 892):=by kernel_rfl
theorem wQ (P:Params):aP (aY P 892) [.loc 3,.loc 4]=some [(S' "heap",.loc 3),(S' "items",.loc 4)]:=by kernel_rfl
theorem Ee (P:Params):(⟨[(S' "heap",AV.loc 3),(S' "items",AV.loc 4)].reverse.filter (fun x=>decide ((aY P 892).scope.names.lookup x.1=some .local)),(ae (aY P 892).scope.names).zip ((List.range (ae (aY P 892).scope.names).length).map (lS.length + ·)),lS++(ae (aY P 892).scope.names).map (fun n=>.cell ([(S' "heap",AV.loc 3),(S' "items",AV.loc 4)].reverse.lookup n)),[]⟩:St)=⟨[(S' "items",.loc 4),(S' "heap",.loc 3)],[],lS,[]⟩:=by kernel_rfl
theorem Fn (P:Params):lG P fF 12 (bm P 892) (iU 0 (cg (dT P))) bW = .req (.ln 1 (Cu 1)) (.br (.lt (.v 3) (Cu 1)) (.leaf (.rt (.bool true)) bW) (.leaf (.rt (.bool false)) bW)):=by kernel_rfl
theorem Fw (P:Params):lG P fF 12 (bm P 892) (.BoolOp .And [iU 2 (cg (dT P))] (uU (cg (dT P)))) bW = .br (.lt (.sub (.v 3) (.v 2)) (.c 4)) (.leaf (.rt (.bool true)) bW) (.leaf (.rt (.bool false)) bW):=by kernel_rfl
noncomputable def Hh:VC:=.ok [.ie (.v 0) (.v 0),.ie (.v 1) (.v 1),.rf 1 1,.ie (.v 2) (.v 2),.ie (.v 3) (.v 3)]
theorem Fq (P:Params):(bA P fF 12 (bm P 892) (ca (ca (mJ P))) bW).vc zF (.rt (.loc 4)) bW=Hh:=by kernel_rfl
theorem Go (P:Params):(bA P fF 12 (bm P 892) (jK (ca (mJ P))) bW).vc zF (.rt (.int (.v 3))) bW = .ok [.ie (.v 3) (.v 3),.ie (.v 0) (.v 0),.ie (.v 1) (.v 1),.rf 1 1,.ie (.v 2) (.v 2),.ie (.v 3) (.v 3)]:=by kernel_rfl
theorem FI (P:Params) (k:Nk):(bA P fF 12 (bm P 892) (FZ (iU 1 (cg (dT P)))) ⟨Ac,[],lS++(k.T 9 11).map .fz,[]⟩).vc zF (.rt (.int (.c 6))) bW = .ok [.ie (.c 6) (.c 6),.ie (.v 0) (.v 0),.ie (.v 1) (.v 1),.rf 1 1,.ie (.v 2) (.v 2),.ie (.v 3) (.v 3)]:=by induction k using Nk.casesOn <;> kernel_rfl
theorem D4:aM zF bW bW=some [.ie (.v 0) (.v 0),.ie (.v 1) (.v 1),.rf 1 1,.ie (.v 2) (.v 2),.ie (.v 3) (.v 3)]:=by kernel_rfl
noncomputable def pK (x c:Int) (Z:List Int) (e:Nat):Rho:=cV [bY x c Z.length,c + 1,bt x c Z.length,(e:Int)] (CJ Z [] [] [] [])
noncomputable def HC (x c:Int) (Z:List Int) (e:Nat) (l:List Int):Rho:=cV ([bY x c Z.length,c + 1,bt x c Z.length,(e:Int),0,0,0,0,0,0,0]++l) (CJ Z [] [] [] [])
noncomputable def lN (f0 f1 f2 y a:Addr):List Addr:=[f0,f1,f2,y,a,y,y,y,y]
noncomputable def zg (nds:List Nd):List Bool:=nds.map fun nd=>nd.k.run
section
variable {G:Gr} {env:Env} {x c:Int} {Z:List Int} {nds:List Nd} {f0 f1 f2 y a:Addr} {e:Nat} {E:Value->Shared->Prop}
theorem Dv (HH:∀{vs ls},H2 w (cV vs ls) (OR G) fF 40) (esc:env.scope=bm w.params 892) (R:Room A (12 + 40)) (S:SR w (pK x c Z e) (OR G) G env h bW (lN f0 f1 f2 y a)) {whole:Sem Value} {Q:Bool->Shared->Prop}
  (q:∀h' n',SR w (pK x c Z e) (OR G) G env h' bW (lN f0 f1 f2 y a)->Q (decide ((e:Int) - bt x c Z.length < 4)) ⟨h',gs,dr,n',os⟩):wpAny (model pr w) A (isTrue (.BoolOp .And [iU 2 (cg (dT w.params))] (uU (cg (dT w.params)))) env whole) Q E ⟨h,gs,dr,n,os⟩ :=
 M0 HH esc (Fw w.params) R S (fun z=>nomatch z) (p:=decide ((e:Int) - bt x c Z.length < 4)) (show (e:Int) - bt x c Z.length < 4↔_ from decide_eq_true_iff.symm) q
theorem zZ (P:Params) (k:Nk) (ρ:Rho):(Ml P k).ok ρ fun f s=>f = .rt (.bool k.run)/\s=bW:=by rw [Be]; exact ⟨rfl,rfl⟩
theorem xj (r:List Addr) (i:Nat):(lN f0 f1 f2 y a++r)[9 + i]? = r[i]?:=(List.getElem?_append_right (Nat.le_add_right 9 i)).trans (congrArg (r[·]?) (Nat.add_sub_cancel_left 9 i))
theorem Dw (l:List Int) (j:Nat):(HC x c Z e l).v (11 + j)=l.getD j 0:=by
 show ([bY x c Z.length,c + 1,bt x c Z.length,(e:Int),0,0,0,0,0,0,0]++l).getD (11 + j) 0=_
 refine aa (List.getD_eq_getElem?_getD) (aa (List.getElem?_append_right (Nat.le_add_right 11 j)) (aa (List.getD_eq_getElem?_getD) ?_))
 exact congrArg (fun i=>(l[i]?).getD 0) (Nat.add_sub_cancel_left 11 j)
theorem DD {g:Gr} (HH:∀{vs ls},H2 w (cV vs ls) (OR G) fF 40) (esc:env.scope=bm w.params 892) (R:Room A (12 + 40)) (kg:be g G) (I:At G a (.pl (Z.map ak))) (It:All2 (fun V nd=>∃x,V = .ref x/\bP g [f0,f1,f2] x nd/\nd.ok) (Z.map ak) nds) (hz:Z.length<=1000) (hlt:e < Z.length)
  (S:SR w (pK x c Z e) (OR G) G env h bW (lN f0 f1 f2 y a)) {whole:Sem Value} {Q:Bool->Shared->Prop}
  (q:∀h' n',SR w (pK x c Z e) (OR G) G env h' bW (lN f0 f1 f2 y a)->Q ((zg nds).getD e false && decide ((e:Int) - bt x c Z.length < 4)) ⟨h',gs,dr,n',os⟩) :
  wpAny (model pr w) A (isTrue (.BoolOp .And [Dx w.params,iU 2 (cg (dT w.params))] (uU (cg (dT w.params)))) env whole) Q E ⟨h,gs,dr,n,os⟩:=by
 apply bc;intro ng
 apply bc;intro ng
 obtain ⟨s1,s2⟩:=Ej w.params
 obtain ⟨nd,hnd,xx,exx,N,ok⟩:=It.get (show (Z.map ak)[e]? = some (ak Z[e]) by refine aa (List.getElem?_map) (aa (List.getElem?_eq_getElem hlt) ?_); rfl)
 have kd:(zg nds).getD e false=nd.k.run:=by unfold zg; refine aa (List.getD_eq_getElem?_getD) (aa (List.getElem?_map) (aa hnd ?_)); rfl
 obtain ⟨nas,na,nx⟩:=kz N rfl rfl (as:=lN f0 f1 f2 y a) (Dw (x:=x) (c:=c) (Z:=Z) (e:=e) nd.a)
 apply ng;clear ng
 refine ng (isTrue_and (wpAny_isTrue_Compare1 ?_ s2)); clear ng
 rw [kd] at q
 rw [arm_eval_Attribute,eR rfl]
 refine wpAny_bind (Subscript_ (qr (ρ':=pK x c Z e) HH esc (Fq w.params) R S rfl (as2:=lN f0 f1 f2 y a) rfl ⟨rfl,rfl,rfl,rfl,rfl⟩ fun V h6 n6 S6 dv=>?_))
 refine qr (ρ':=HC x c Z e nd.a) HH esc (Go w.params) R S6 rfl (as2:=lN f0 f1 f2 y a) rfl ⟨rfl,rfl,rfl,rfl,rfl,rfl⟩ fun U h7 n7 S7 du=>?_
 refine aa (show V = .ref a from cA dv rfl) ?_
 refine du.elim fun tt eU=>?_
 refine aa eU ?_
 have hl:h7.IsList a (Z.map ak).toArray:=At.pl (I.le fun o e=>S7.kp _ _ e)
 refine tail_any (s:=⟨h7,gs,dr,n7,os⟩) (hl.typeIs (s:=⟨h7,gs,dr,n7,os⟩)) slot_list_getitem.lookup (wpAny_getItem_list (s:=⟨h7,gs,dr,n7,os⟩) (k:=(e:Int)) hl (Int.natCast_nonneg e) (Int.lt_of_lt_of_le (Int.ofNat_lt.mpr (Nat.lt_of_lt_of_le hlt hz)) (by decide)) (x:=.ref xx) (by rw [List.getElem?_toArray,Int.toNat_natCast,List.getElem?_map,List.getElem?_eq_getElem hlt]; exact congrArg some exx) ?_) (dG s1 _ _)
 have S8:=S7.join (us:=nd.k.T 9 11) (nx.mono fun zw zw z=>z.keep .refl (kg _))
 refine wpAny_bind (wpAny_standAt (wpAny_bind (wpAny_holding (iN (zZ w.params nd.k _) S8 ⟨xx,(xj _ _).trans na,rfl⟩ fun v V n8 y8 dv=>wpAny_bind (wpAny_letTemporaryGo (wpAny_pure ?_))))))
 refine qk (ρ':=HC x c Z e nd.a) HH esc (FI w.params nd.k) R S8 ⟨rfl,rfl,rfl,rfl,rfl,rfl⟩ fun U h9 as9 n9 S9 p9 du=>?_
 rw [show (zF.map fun j=>as9.getD j 0)=lN f0 f1 f2 y a by obtain ⟨t,rfl⟩:=p9; rfl] at S9 du
 apply bc;intro ng
 cases v <;> try exact y8.elim
 apply ng;clear ng
 refine gx R.u y8 S9 dv du fun cc s' n' yc S10=>?_
 rw [yc.2] at S10
 refine aa (show cc=nd.k.run from AV.bool.inj (Fl.rt.inj yc.1)) ?_
 have S11:SR w (pK x c Z e) (OR G) G env h9 bW (lN f0 f1 f2 y a):=S10.re (s':=bW) zF D4 ⟨rfl,rfl,rfl,rfl,rfl⟩
 induction hk:nd.k.run with
 | false=>rw [hk] at q; exact q _ _ S11
 | true=>rw [hk] at q; exact Dv HH esc R S11 q
theorem E6 {g:Gr} (HH:∀{vs ls},H2 w (cV vs ls) (OR G) fF 40) (esc:env.scope=bm w.params 892) (R:Room A (12 + 40)) (kg:be g G) (I:At G a (.pl (Z.map ak))) (It:All2 (fun V nd=>∃x,V = .ref x/\bP g [f0,f1,f2] x nd/\nd.ok) (Z.map ak) nds) (hz:Z.length<=1000)
  (S:SR w (pK x c Z e) (OR G) G env h bW (lN f0 f1 f2 y a)) {whole:Sem Value} {Q:Bool->Shared->Prop}
  (q:∀h' n',SR w (pK x c Z e) (OR G) G env h' bW (lN f0 f1 f2 y a)->Q (decide (e < Z.length) && ((zg nds).getD e false && decide ((e:Int) - bt x c Z.length < 4))) ⟨h',gs,dr,n',os⟩) :
  wpAny (model pr w) A (isTrue (EB w.params) env whole) Q E ⟨h,gs,dr,n,os⟩:=by
 refine isTrue_and (rX HH esc (Fn w.params) R S (fun zw=>rfl) ⟨⟨rfl,hz⟩,fun k b h' as' n' d S' pp=>?_,fun k b h' as' n' d S' pp=>?_⟩)
 ·refine aa (Eq.symm (AV.bool.inj (Fl.rt.inj (show Fl.rt (.bool true)=Fl.rt (.bool b) from d)))) ?_
  have S':=S.same S' pp rfl▸S'
  have hlt:e < Z.length:=Int.ofNat_lt.mp k
  rw [decide_eq_true hlt] at q
  exact DD HH esc R kg I It hz hlt S' q
 ·refine aa (Eq.symm (AV.bool.inj (Fl.rt.inj (show Fl.rt (.bool false)=Fl.rt (.bool b) from d)))) ?_
  have S':=S.same S' pp rfl▸S'
  rw [decide_eq_false (show ¬e < Z.length from fun z=>k (Int.ofNat_lt.mpr z))] at q
  exact q _ _ S'
theorem Bc (HH:∀{vs ls},H2 w (cV vs ls) (OR G) fF 40) (esc:env.scope=bm w.params 892) (R:Room A (12 + 40)) (S:SR w (pK x c Z e) (OR G) G env h bW (lN f0 f1 f2 y a)) {Q:Flow->Shared->Prop}
  (q:∀h' n' z Ys Us,(∀b o,G b=some o->h'.get? b=some o)->At h'.get? y (.lst Ys)->IntsAre Ys [bY x c Z.length,c + 1]->G z=none->z≠y->At h'.get? z (.tup Us)->IntsAre Us [bt x c Z.length,(e:Int)]->Q (.ret (.ref z)) ⟨h',gs,dr,n',os⟩) :
  wpAny (model pr w) A (execs ((al w.params 892).drop 3) env) Q E ⟨h,gs,dr,n,os⟩:=by
 refine ua (ρ':=pK x c Z e) HH esc (wL w.params) R S ⟨rfl,rfl,rfl,rfl⟩ fun V h6 as6 n6 S6 p6 dv=>?_
 apply bc;intro ng
 obtain ⟨t,rfl⟩:=p6
 obtain ⟨⟨Us,u1,u3⟩,ow⟩:=S6.ob 1 _ _ rfl rfl
 obtain ⟨⟨Ys,v1,v2⟩,ow2⟩:=S6.ob 0 _ y rfl rfl
 rw [cA dv rfl] at ng
 exact ng (q h6 n6 _ Ys Us S6.kp v2 (dK (es:=[.v 0,.v 1]) v1) (ow rfl).2 (fun e=>absurd (S6.nd 0 1 _ _ y rfl rfl rfl rfl rfl (congrArg some e)) (by decide)) u3 (dK (es:=[.v 2,.v 3]) u1))
end
theorem qA {l:List Bool} {k e D m:Nat} {d:Int} (hm:l.length=m) (hd:d=D) (ke:k + e=D + 4) (h:(decide (e < m) && (l.getD e false && decide ((e:Int) - d < 4)))=false):fB l k e=e:=by
 induction k using Nat.casesOn with
 | zero=>rfl
 | succ k =>
  refine if_neg fun z=>?_
  have hl:e < m:=hm▸Nat.lt_of_not_le fun q=>by rw [List.getD_eq_getElem?_getD,List.getElem?_eq_none q] at z; exact bG z
  rw [z,decide_eq_true hl,decide_eq_true (show (e:Int) - d < 4 by omega)] at h
  exact bG h.symm
theorem vp {l:List Bool} {k e D m:Nat} {d:Int} (hd:d=D) (ke:k + e=D + 4) (h:(decide (e < m) && (l.getD e false && decide ((e:Int) - d < 4)))=true):∃k',k=k' + 1/\fB l k e=fB l k' (e + 1):=by
 have h2:=ag (au h); have h3:=of_decide_eq_true (au (au h))
 exact ⟨k - 1,by omega,by refine aa (show k=(k - 1) + 1 by omega) ?_; exact if_pos h2⟩
def NF (w:World) (G:Gr) (x c:Int) (Z:List Int) (nds:List Nd) (f0 f1 f2 y a:Addr) (env:Env) (gs:Array GenState) (dr:Drawn) (os:OsState) (k:Nat) (st:Shared):Prop:=∃(e:Nat) (h3:Heap) (n:Nat),k + e=(bt x c Z.length).toNat + 4/\fB (zg nds) k e=fB (zg nds) 4 (bt x c Z.length).toNat/\st=⟨h3,gs,dr,n,os⟩/\
  SR w (pK x c Z e) (OR G) G env h3 bW (lN f0 f1 f2 y a)
theorem yC {y a:Addr} {Vs:List Value} {x c:Int} {Z:List Int} {nds:List Nd} (B:gV w (G1 h y)) (L:At h.get? y (.lst Vs)) (hi:IntsAre Vs [x,c]) (I:At h.get? a (.pl (Z.map ak))) (hay:a≠y) (hz:0 < Z.length/\Z.length<=100) (hc:0<=c/\c<=990000)
  (hF:F.length=3) (kg:be g (G1 h y)) (It:All2 (fun V nd=>∃x,V = .ref x/\bP g F x nd/\nd.ok) (Z.map ak) nds) (R:Room A 60) {Q:Value->Shared->Prop} {E:Value->Shared->Prop}
  (q:∀h' n' z Vs' Us,(∀b o,b≠y->h.get? b=some o->h'.get? b=some o)->At h'.get? y (.lst Vs')->IntsAre Vs' [bY x c Z.length,c + 1]->h.get? z=none->At h'.get? z (.tup Us)->IntsAre Us [bt x c Z.length,(fB (nds.map fun nd=>nd.k.run) 4 (bt x c Z.length).toNat:Nat)]->Q (.ref z) ⟨h',gs,dr,n',os⟩) :
  wpAny (model pr w) A (call (.ref 892) [.ref y,.ref a]) Q E ⟨h,gs,dr,n,os⟩:=by
 apply bc;intro ng
 apply bc;intro ng
 obtain ⟨t0,t1,eV⟩:=jz hi
 apply ng;clear ng
 have hln:(zg nds).length=Z.length:=(List.length_map _).trans (It.len.symm.trans (List.length_map _))
 match F,hF with
 | [f0,f1,f2],_ =>
 have Ia:At (G1 h y) a (.pl (Z.map ak)):=I.le fun o e=>(gS hay).trans e
 have HH:∀{vs ls},H2 w (cV vs ls) (OR (G1 h y)) fF 40:=⟨B,by decide,eD rfl rfl⟩
 have C0:Co w (cV [x,c] (CJ Z [] [] [] [])) (OR (G1 h y)) (G1 h y) h lS [] (lN f0 f1 f2 y a) :=
  Co.one B (fun zw zw e=>e) rfl (.cons ⟨trivial,nofun⟩ (.cons ⟨trivial,nofun⟩ (.cons ⟨trivial,nofun⟩ (.cons ⟨⟨_,.cons ⟨t0,rfl⟩ (.cons ⟨t1,rfl⟩ .nil),eV▸L⟩,fun zw=>rfl⟩ (.cons ⟨Ia,nofun⟩ (.cons ⟨trivial,nofun⟩ (.cons ⟨trivial,nofun⟩ (.cons ⟨trivial,nofun⟩ (.cons ⟨trivial,nofun⟩ .nil)))))))))
 have b0:=bC (a:=x) (c:=c) (m:=Z.length) (by omega)
 have hd:bt x c Z.length=((bt x c Z.length).toNat:Nat):=by omega
 refine ng (go (R.le (m:=52 + 1) (by decide)) (Dk w.params) (wQ w.params) C0 (.cons ⟨y,rfl,rfl⟩ (.cons ⟨a,rfl,rfl⟩ .nil)) fun A' env h1 n1 as1 R1 esc p1 S1 E'=>?_); clear ng
 refine cW fun Q' E' kq zw=>?_
 replace esc:env.scope=bm w.params 892:=esc
 replace R1:Room A' (12 + 40):=R1
 rw [Ee w.params,p1.eq S1.sz] at S1
 refine aa (show (aY w.params 892).body=_ from xk w.params) ?_
 refine aH (zW (ρ':=pK x c Z (bt x c Z.length).toNat) HH esc (wx w.params) R1 S1 rfl (as2:=lN f0 f1 f2 y a) rfl ⟨⟨rfl,show Z.length<=1000 by omega⟩,show (0:Int) < Z.length by omega,show (Z.length:Int) < 1000000 by omega,hc.1,show c < 1000000 by omega,rfl,rfl,rfl,rfl,hd⟩ fun h2 n2 S2=>?_)
 refine wpAny_execs_cons (wpAny_While (codeAny_whileLoop (NF w (G1 h y) x c Z nds f0 f1 f2 y a env gs dr os) (fun k st i=>cW fun Q2 zw kq2 zw=>?_) 4 ⟨_,h2,n2,Nat.add_comm _ _,rfl,rfl,S2⟩))
 apply bc;intro ng
 obtain ⟨e,h3,n3,ke,em,rfl,S⟩:=i
 apply ng;clear ng
 refine E6 HH esc R1 kg Ia It (by omega) S fun h4 n4 S4=>kq2 _ _ ?_
 induction hb:(decide (e < Z.length) && ((zg nds).getD e false && decide ((e:Int) - bt x c Z.length < 4))) with
 | true =>
  let ⟨k',ek,er⟩:=vp hd ke hb
  refine aa (if_pos rfl) ?_
  exact zW (ρ':=pK x c Z (e + 1)) HH esc (wb w.params) R1 S4 rfl (as2:=lN f0 f1 f2 y a) rfl ⟨rfl,rfl,rfl,rfl,rfl⟩ fun h5 n5 S5=>⟨k',ek▸Nat.lt_succ_self _,e + 1,h5,n5,by omega,er.symm.trans em,rfl,S5⟩
 | false =>
  refine aa (if_neg Bool.false_ne_true) ?_
  exact wpAny_execs_nil (Bc HH esc R1 S4 fun h6 n6 z Ys Us k6 v2 iv gz zy u3 iu=>kq _ _ (q h6 n6 z Ys Us (zH k6) v2 iv ((gS zy).symm.trans gz) u3 (((qA hln hd ke hb).symm.trans em)▸iu)))
end
noncomputable def Cw (i:Nat):List AO:=[.dead,.dead,.dead,.dead,.lit 3 i,.rf 1,.dead,.dead,.dead]
noncomputable def fA (i:Nat):St:=⟨[(S' "found",.loc 5)],[],Cw i,[]⟩
noncomputable def dw (P:Params):Stmt:=(al P 899).getD 1 (.Pass default)
noncomputable def uS (P:Params):Expr:=cg ((bf (dw P)).getD 0 (.Pass default))
noncomputable def Nk.fl:Nk->List Nat | .dsc0=>[] | .dsc1=>[3] | .dsc2=>[3,5] | k=>[k.last]
noncomputable def Nk.isD:Nk->Bool | .dsc0 | .dsc1 | .dsc2=>true | _=>false
noncomputable def CM (k:Nk) (i:Nat):St:=⟨[(S' "node",.loc (9 + k.last)),(S' "found",.loc 5)],[],Cw i++(k.T 9 11).map .fz,[]⟩
noncomputable def Db (k:Nk) (i:Nat):St:=⟨[(S' "node",.loc (9 + k.last)),(S' "found",.loc 5)],[],if k.isD then Cw i++(k.T 9 11).map .fz else Cw i++(k.T 9 11).map .fz++[.pl [.loc (9 + k.last)]],[]⟩
noncomputable def Me (k:Nk):Nat:=if k.isD then 17 else 9 + (k.T 9 11).length
theorem Dh (P:Params) (k:Nk) (i:Nat):bZ (bm P 899) (bh (cB (dw P))) (.loc (9 + k.last)) ⟨(fA i).ls,[],Cw i++(k.T 9 11).map .fz,[]⟩ (fun s=>.leaf .nx s) = .leaf .nx (CM k i):=by induction k using Nk.casesOn <;> kernel_rfl
theorem FT (P:Params) (k:Nk) (i:Nat):bA P aA 12 (bm P 899) (bq (uS P)) (CM k i) = .leaf (.rt (.loc (Me k))) (Db k i):=by induction k using Nk.casesOn <;> kernel_rfl
theorem Fa (k:Nk) (i:Nat):(Db k i).at (Me k)=some (.lst (k.fl.map fun j=>.loc (9 + j))):=by induction k using Nk.casesOn <;> rfl
theorem K4 (P:Params) (k:Nk) (i:Nat):bA P aA 12 (bm P 899) (ca (ax (uS P))) (CM k i) = .leaf (.rt (.loc 5)) (CM k i):=by induction k using Nk.casesOn <;> kernel_rfl
theorem C1 (k:Nk) (i:Nat):aM [0,1,2,3,4,5,6,7,8] ⟨(Db k i).ls,[],(Db k i).ob.set 5 (.rf 2),[]⟩ (fA i)=some [.nat i i,.rf 2 1]:=by induction k using Nk.casesOn <;> kernel_rfl
theorem wM (P:Params):al P 899=(al P 899).take 1++(.For (.Name (bh (cB (dw P))) (aR (cB (dw P)))) (aQ (dw P)) (bf (dw P)) [] (dw P).pos::(al P 899).drop 2):=by kernel_rfl
theorem He (P:Params):bf (dw P) = [.Expr (.Call (.Attribute (ca (ax (uS P))) (S' "extend") (d6 (ax (uS P)))) [bq (uS P)] [] (cf (uS P))) (rd ((bf (dw P)).getD 0 (.Pass default)))]:=by kernel_rfl
theorem rS (P:Params):((d6 (ax (uS P))).endLine == (cf (uS P)).line)=true/\cr (ca (ax (uS P)))=false/\aK (bq (uS P))=false/\cp (aQ (dw P))=false:=⟨by kernel_rfl,by kernel_rfl,by kernel_rfl,by kernel_rfl⟩
section
open AutoSeq1 (wpAny_loadPart')
theorem qS (l:Addr) (items:Array Value) (n:Nat) (b:Addr) (items2:Array Value) (n2:Nat) (dd:Option Addr) (sl:Array (Option Value)) (hc0:¬(!items.isEmpty && Builtin.List.listTooLong (items.size + items2.size))=true) (hc1:items.size<=sizeLine) (hs2:items.size + items2.size<=sizeLine + 1) :
  Meets (Builtin.«list.extend» ⟨[.ref l,.ref b],[]⟩) (fun zw R s=>s.heap.get? l=some { cls:=.type "list",dict:=none,data:=.seq items n,slots:=#[] }/\s.heap.get? b=some { cls:=.type "list",dict:=dd,data:=.seq items2 n2,slots:=sl }/\R (.ok (.ret Value.none)) { s with heap:=s.heap.update l (Obj.mapSeq fun x=>x++items2),toks:=s.toks }) :=
 .of_wp fun prog w A R s h=>by
  obtain ⟨hp,g,d,tk,os⟩:=s; obtain ⟨hl,hb,h⟩:=h
  have hz':(items++items2).size<=sizeLine + 1:=by refine aa Array.size_append ?_; exact hs2
  wp_walk using (wpAny_updateSeq hl rfl (hz:=hc1) (_hz':=hz')),wpAny_loadPart' hl,wpAny_loadPart' hb; exact ⟨_,rfl,h⟩
section
variable {w:World} {A:Around} {gs:Array GenState} {dr:Drawn} {os:OsState} {h:Heap} {n:Nat} {g:Gr} {F:List Addr} {E:Value->Shared->Prop} {s:Shared} {l:Addr} {pos:Pos}
theorem KY {x:Sem Value} {Q:Value->Shared->Prop}
  (h:wpAny (model pr w) A x (fun v s₁=>∃b items Us n,v = .ref b/\IsL s₁.heap l items n/\At s₁.heap.get? b (.lst Us)/\items.size + Us.length<=1000/\Q .none { s₁ with heap:=s₁.heap.update l (Obj.mapSeq fun xs=>xs++Us.toArray) }) E s) :
  wpAny (model pr w) A (callWith pos (.builtin "list.extend") [.ref l] [(false,x)] []) Q E s :=
 seqMethod1_meets F.slot_list_extend F.entry_list_extend (wpAny_mono h (fun v s₁ h₁=>by
  apply bc;intro ng
  obtain ⟨b,items,Us,n,rfl,hl,⟨⟨cls,dd,data,sl⟩,hb,hc,n2,hd⟩,hz,hq⟩:=h₁
  simp only at hc hd
  subst hc hd
  apply ng;clear ng
  have hz2:items.size + Us.toArray.size<=1000:=by simpa using hz
  exact ⟨⟨_,hl,rfl⟩,F.args_list_extend_2 _ _,_,qS l items n b Us.toArray n2 dd sl (extend_door (by refine aa sizeLine_eq ?_; (first | lia | omega))) (by refine aa sizeLine_eq ?_; (first | lia | omega)) (by refine aa sizeLine_eq ?_; (first | lia | omega)),hl,hb,hq⟩) fun zw zw e=>e)
def CG (g:Gr) (F:List Addr) (V:Value) (p:Nd×List Int):Prop:=∃x as2,V = .ref x/\as2[p.1.k.last]? = some x/\All2 (fun x u=>aN (dy p.1.a) (F++as2) g x u) as2 (p.1.k.T 3 0)/\p.2=p.1.k.fl.map fun i=>((as2.getD i 0:Nat):Int)
theorem EC {Vs:List Value} {nds:List Nd} (It:All2 (fun V nd=>∃x,V = .ref x/\bP g F x nd/\nd.ok) Vs nds):∃ps:List (Nd×List Int),ps.map (·.1)=nds/\All2 (CG g F) Vs ps:=by
 induction It with
 | nil=>exact ⟨[],rfl,.nil⟩
 | @cons V nd _ _ hh _ ih =>
  apply bc;intro ng
  obtain ⟨x,rfl,⟨as2,e1,e2⟩,ok⟩:=hh
  obtain ⟨ps,rfl,z⟩:=ih
  apply ng;clear ng
  exact ⟨(nd,nd.k.fl.map fun i=>((as2.getD i 0:Nat):Int))::ps,rfl,.cons ⟨x,as2,rfl,e1,e2,rfl⟩ z⟩
theorem C9 (P:Params):dN P 899=some (aY P 899):=by kernel_rfl
theorem wK (P:Params):aP (aY P 899) [.loc 3]=some [(S' "items",.loc 3)]:=by kernel_rfl
noncomputable def qp:List AO:=[.dead,.dead,.dead,.dead,.dead,.dead,.dead]
theorem CV (P:Params):(⟨[(S' "items",AV.loc 3)].reverse.filter (fun x=>decide ((aY P 899).scope.names.lookup x.1=some .local)),(ae (aY P 899).scope.names).zip ((List.range (ae (aY P 899).scope.names).length).map (qp.length + ·)),qp++(ae (aY P 899).scope.names).map (fun n=>.cell ([(S' "items",AV.loc 3)].reverse.lookup n)),[]⟩:St)=⟨[(S' "items",.loc 3)],[],qp,[]⟩:=by kernel_rfl
noncomputable def qB (f:AO):St:=⟨[(S' "found",.loc 7),(S' "items",.loc 3)],[],qp++[f],[]⟩
theorem Dg (P:Params):(cx P aA 12 (bm P 899) ((al P 899).take 1) ⟨[(S' "items",.loc 3)],[],qp,[]⟩).vc [0,1,2,3,4,5,6,7] .nx (qB (.pl [])) = .ok []:=by kernel_rfl
theorem Eb (P:Params):(bA P aA 12 (bm P 899) (aQ (dw P)) (qB (.rf 1))).vc [0,1,2,3,4,5,6,7] (.rt (.loc 3)) (qB (.rf 1)) = .ok [.rf 1 1]:=by kernel_rfl
theorem D5 (P:Params) (i:Nat):(cx P aA 12 (bm P 899) ((al P 899).drop 2) ⟨(fA i).ls,[],(fA i).ob.set 4 .dead,[]⟩).vc [5] (.rt (.loc 0)) ⟨[],[],[.rf 1],[]⟩ = .ok [.rf 1 1]:=by kernel_rfl
theorem FE:aM [0,1,2,3,8,7,4,5,6] ⟨(qB (.rf 1)).ls,[],(qB (.rf 1)).ob++[.lit 3 0],[]⟩ (fA 0)=some [.nat 0 0,.rf 1 1]:=by kernel_rfl
theorem E4 (i:Nat):aM [0,1,2,3,4,5,6,7,8] (fA i) (fA i)=some [.nat i i,.rf 1 1]:=by kernel_rfl
noncomputable def My (a b:List Int):Nat->List Int | 1=>a | 2=>b | _=>[]
theorem Bv (k:Nk):k.last < (k.T 3 0).length/\∀i∈k.fl,i < (k.T 3 0).length:=by induction k using Nk.casesOn <;> decide
theorem pE {ρ:Rho} {as nas:List Addr} (hp:∀(j:Nat) x,nas[j]? = some x->as[9 + j]? = some x):∀{ks:List Nat} {Us:List Value},(∀j∈ks,j < nas.length)->All2 (Dn ρ as) (ks.map fun j=>.loc (9 + j)) Us->Us=(ks.map fun i=>((nas.getD i 0:Nat):Int)).map ak
 | [],_,_,.nil=>rfl
 | k::ks,_,hk,.cons d x=>by
  obtain ⟨b,e,rfl⟩:=d
  have hl:=hk k (.head _)
  have:=hp k nas[k] (List.getElem?_eq_getElem hl)
  rw [this] at e; cases e
  rw [pE hp (fun j m=>hk j (.tail _ m)) x]
  simp [ak,List.getD,hl]
noncomputable def DJ (f0 f1 f2 a it z:Addr):List Addr:=[f0,f1,f2,a,it,z,a,a,a]
noncomputable def rO (zs:List Int):Rho:=cV [] (My zs [])
noncomputable def Lb (l zs z2:List Int):Rho:=cV ([0,0,0,0,0,0,0,0,0,0,0]++l) (My zs z2)
theorem F1 (l zs z2:List Int) (j:Nat):(Lb l zs z2).v (11 + j)=l.getD j 0:=by
 show ([0,0,0,0,0,0,0,0,0,0,0]++l).getD (11 + j) 0=_
 refine aa (List.getD_eq_getElem?_getD) (aa (List.getElem?_append_right (Nat.le_add_right 11 j)) (aa (List.getD_eq_getElem?_getD) ?_))
 exact congrArg (fun i=>(l[i]?).getD 0) (Nat.add_sub_cancel_left 11 j)
theorem rx (k:Nk) (i:Nat):(CM k i).ob[5]? = some (.rf 1)/\(Db k i).ob[5]? = some (.rf 1):=by induction k using Nk.casesOn <;> exact ⟨rfl,rfl⟩
theorem xg {O:Opq} {G:Gr} {env:Env} {zs:List Int} {p:Nd×List Int} {i:Nat} {f0 f1 f2 a it z:Addr} {V:Value} (HH:∀{ρ:Rho},H2 w ρ O aA 2) (esc:env.scope=bm w.params 899) (R:Room A (12 + 2)) (kg:be g O.g) (hV:CG g [f0,f1,f2] V p) (hz:(zs++p.2).length<=900)
  (S:SR w (rO zs) O G env h (fA (i + 1)) (DJ f0 f1 f2 a it z)) {Q:Flow->Shared->Prop} {E1 E2:Value->Shared->Prop} (q:∀h' n',SR w (rO (zs++p.2)) O G env h' (fA (i + 1)) (DJ f0 f1 f2 a it z)->Q .next ⟨h',gs,dr,n',os⟩) :
  wpAny (model pr w) A (storeName env (bh (cB (dw w.params))) V) (fun zw s₂=>wpAny (model pr w) A (execs (bf (dw w.params)) env) Q E1 s₂) E2 ⟨h,gs,dr,n,os⟩:=by
 apply bc;intro ng
 obtain ⟨x,nas,rfl,na,nx,ez⟩:=hV
 obtain ⟨q1,q2,q3,q4⟩:=rS w.params
 have S8:=S.re (s':=fA (i + 1)) (ρ':=Lb p.1.a zs (zs++p.2)) [0,1,2,3,4,5,6,7,8] (E4 _) ⟨rfl,rfl⟩
 have nx2:=l8 nx (ρ:=Lb p.1.a zs (zs++p.2)) (as:=DJ f0 f1 f2 a it z) rfl rfl (F1 _ _ _)
 have S9:=S8.join (us:=p.1.k.T 9 11) (nx2.mono fun zw zw z=>z.keep .refl (kg _))
 have l9:∀(r:List Addr) (i:Nat),(DJ f0 f1 f2 a it z++r)[9 + i]? = r[i]?:=fun r i=>(List.getElem?_append_right (Nat.le_add_right 9 i)).trans (congrArg (r[·]?) (Nat.add_sub_cancel_left 9 i))
 refine ng (aW (post:=fun f s=>s=CM p.1.k (i + 1)) (v:=.loc (9 + p.1.k.last)) (k:=fun s=>.leaf .nx s) (by
  refine aa esc ?_
  show Tr.ok _ _ (bZ _ _ _ ⟨(fA (i + 1)).ls,[],Cw (i + 1)++_,[]⟩ _)
  rw [Dh]; rfl) S9 ⟨x,(l9 _ _).trans na,rfl⟩ fun s2 h9 n9 y9 S10=>?_); clear ng
 rw [show s2=_ from y9] at S10
 rw [He]
 refine wpAny_execs_cons (wpAny_Expr_any (Iq q1 q2 q3 PySem.F.slot_list_extend PySem.F.type_list_extend (sG HH esc (K4 w.params p.1.k (i + 1)) R S10 fun V h11 as11 n11 S11 p11 dv=>?_)) (by unfold interactive; rw [S10.ek]; rfl) rfl)
 have ef:as11[5]? = some z:=p11.get rfl
 have pf:At h11.get? z (.pl (zs.map ak)):=(S11.ob 5 (.rf 1) z (rx _ _).1 ef).1
 refine ⟨z,_,cA dv ef,(let ⟨o,e1,n1,e2⟩:=pf; ⟨n1,e2▸e1⟩),KY (sG HH esc (FT w.params p.1.k (i + 1)) R S11 fun v h12 as12 n12 S12 p12 dv=>?_)⟩
 have ef12:=p12.get ef
 apply bc;intro ng
 obtain ⟨b,eb,ev⟩:=dv
 obtain ⟨b',eb',Us,u1,u2⟩:=S12.at (Fa p.1.k (i + 1))
 rw [<- show b=b' from aG (eb.symm.trans eb')] at u2
 have ub:Us=p.2.map ak:=by
  refine aa ez ?_
  have ln:nas.length=(p.1.k.T 3 0).length:=nx.len
  exact pE (as:=as12) (fun j y ey=>(p11.trans p12).get ((l9 _ _).trans ey)) (fun j m=>by refine aa ln ?_; exact (Bv p.1.k).2 j m) u1
 rw [ub] at u2
 obtain ⟨of,il,nf,rfl⟩:At h12.get? z (.pl (zs.map ak)):=(S12.ob 5 (.rf 1) z (rx _ _).2 ef12).1
 have il:IsL h12 z (zs.map ak).toArray nf:=il
 have S13:=S12.obj (j:=5) (o:=.rf 1) (o':=.rf 2) (rx _ _).2 rfl ef12 (Heap.SameBut.update h12 z (Obj.mapSeq fun xs=>xs++(p.2.map ak).toArray)) ⟨_,il.update _,_,by
  show (_:Obj) = { cls:=.type "list",data:=.seq (List.map ak (zs++p.2)).toArray _ }
  rw [List.map_append,<- List.append_toArray]⟩
 have S14:=S13.re (s':=fA (i + 1)) (ρ':=rO (zs++p.2)) [0,1,2,3,4,5,6,7,8] (C1 p.1.k (i + 1)) ⟨rfl,rfl⟩
 obtain ⟨t,rfl⟩:=p11.trans p12
 refine ng ⟨b,_,_,nf,ev,il,u2,?_,wpAny_execs_nil (q _ _ S14)⟩
 rw [List.size_toArray,List.length_map,List.length_map,<- List.length_append]; exact Nat.le_trans hz (by decide)
noncomputable def t6 (ps:List (Nd×List Int)) (i:Nat):List Int:=(ps.take i).flatMap (·.2)
theorem zv {ps:List (Nd×List Int)} {i:Nat} {p:Nd×List Int} (e:ps[i]? = some p):t6 ps (i + 1)=t6 ps i++p.2:=by unfold t6; refine aa List.take_add_one (aa e (aa List.flatMap_append ?_)); exact congrArg (_++·) (List.append_nil _)
theorem BS (ps:List (Nd×List Int)) (i:Nat):(t6 ps i).length<=(ps.flatMap (·.2)).length:=by
 have e:ps.flatMap (·.2)=t6 ps i++(ps.drop i).flatMap (·.2):=by unfold t6; rw [<- List.flatMap_append,List.take_append_drop]
 refine aa e (aa List.length_append ?_); exact Nat.le_add_right _ _
theorem uz (W:Wd w h) {a:Addr} {Z:List Int} {ps:List (Nd×List Int)} (I:At h.get? a (.pl (Z.map ak))) (hF:F.length=3) (kg:be g h.get?) (It:All2 (CG g F) (Z.map ak) ps) (hz:(ps.flatMap (·.2)).length<=900) (R:Room A 60) {Q:Value->Shared->Prop} {E:Value->Shared->Prop}
  (q:∀h' n' z,h.StaysIn h'->h.get? z=none->At h'.get? z (.pl ((ps.flatMap (·.2)).map ak))->Q (.ref z) ⟨h',gs,dr,n',os⟩):wpAny (model pr w) A (call (.ref 899) [.ref a]) Q E ⟨h,gs,dr,n,os⟩:=by
 match F,hF with
 | [f0,f1,f2],_ =>
 have HH:∀{ρ:Rho},H2 w ρ (OW h) aA 2:=H2.no (be.hb W)
 have C0:Co w (rO []) (OW h) h.get? h qp [] [f0,f1,f2,a,a,a,a]:=Co.all W (fun zw zw e=>e) (.cons ⟨trivial,rfl⟩ (.cons ⟨trivial,rfl⟩ (.cons ⟨trivial,rfl⟩ (.cons ⟨trivial,rfl⟩ (.cons ⟨trivial,rfl⟩ (.cons ⟨trivial,rfl⟩ (.cons ⟨trivial,rfl⟩ .nil)))))))
 refine go (R.le (m:=20 + 1) (by decide)) (C9 w.params) (wK w.params) C0 (.cons ⟨a,rfl,rfl⟩ .nil) fun A' env h1 n1 as1 R1 esc p1 S1 E'=>?_
 refine cW fun Q' E' kq zw=>?_
 replace esc:env.scope=bm w.params 899:=esc
 replace R1:Room A' (12 + 2):=R1.le (by decide)
 rw [CV w.params,p1.eq S1.sz] at S1
 refine aa (show (aY w.params 899).body=_ from wM w.params) ?_
 refine aH (iT (ρ':=rO []) HH esc (Dg w.params) R1 S1 trivial fun h2 as2 n2 S2 p2=>?_)
 apply bc;intro ng
 obtain ⟨t,rfl⟩:=p2
 obtain ⟨b,eb,⟨Us,u1,u2⟩,-⟩:=S2.get (i:=7) rfl
 rw [u1.n] at u2
 have S3:SR w (rO []) (OW h) h.get? env h2 (qB (.rf 1)) [f0,f1,f2,a,a,a,a,t.getD 0 0]:=S2.obj (o':=.rf 1) rfl rfl eb ⟨rfl,fun zw zw=>rfl⟩ u2
 refine ng (wpAny_execs_cons (wpAny_For (qr (ρ':=rO []) HH esc (Eb w.params) R1 S3 rfl (as2:=[f0,f1,f2,a,a,a,a,t.getD 0 0]) rfl rfl fun V h4 n4 S4 dv=>?_) (dO (rS w.params).2.2.2))); clear ng
 refine aa (cA dv rfl) ?_
 have hl:h4.IsList a (Z.map ak).toArray:=At.pl (I.le fun o e=>S4.kp _ _ e)
 refine wpAny_pyIter_list (s:=⟨h4,gs,dr,n4,os⟩) hl ?_
 have S5:=S4.push { cls:=.type "list_iterator",data:=.fields #[.ref a,rawInt 0] } (ao:=.lit 3 0) ⟨a,rfl,_,Heap.get?_push_size _ rfl,rfl,rfl⟩
 have S6:SR w (rO (t6 ps 0)) _ _ _ _ (fA 0) (DJ f0 f1 f2 a h4.objs.size (t.getD 0 0)):=S5.re (s':=fA 0) (ρ':=rO []) [0,1,2,3,8,7,4,5,6] FE ⟨rfl,rfl⟩
 refine vF R1 (m:=4) (j:=3) (Vs:=Z.map ak) (At.pl I) rfl rfl (fun i=>rO (t6 ps i)) fA (fun zw=>rfl) (fun i h7 n7 V hV S7 Q2 E1 E2 q2=>?_) (fun h7 n7 S7=>?_) S6
 ·apply bc;intro ng
  obtain ⟨p,hp,ha⟩:=It.get hV
  exact ng (xg HH esc R1 kg ha (zv hp▸Nat.le_trans (BS ps _) hz) S7 fun h8 n8 S8=>q2 _ _ _ (.inl rfl) (zv hp▸S8))
 ·have hlen:t6 ps (Z.map ak).length=ps.flatMap (·.2):=by unfold t6; exact aa It.len (aa List.take_length rfl)
  refine ua (ρ':=rO (t6 ps (Z.map ak).length)) HH esc (D5 w.params _) R1 S7 rfl fun V h8 as8 n8 S8 p8 dv=>?_
  apply bc;intro ng
  obtain ⟨z,ez,eV⟩:=dv
  obtain ⟨u1,ow⟩:=S8.ob 0 _ z rfl ez
  rw [eV] at ng
  exact ng (kq _ _ (q h8 n8 z S8.kp (ow rfl).2 (hlen▸u1)))
end
end
section
open PySem PySem.W PyProof.Rows PySem.Calls PySem.SeqAt
inductive PT | int (n:Int) | tup (l:List PT)
def jd (g:Gr):Nat->PT->Value->Prop
 | 0,_,_=>False
 | _ + 1,.int n,V=>∃t,V = .int n t
 | d + 1,.tup l,V=>∃a Vs,V = .ref a/\At g a (.tup Vs)/\All2 (fun t U=>jd g d t U) l Vs
theorem jd.mono {g g':Gr} {d d':Nat} {t:PT} {V:Value} (h:d<=d') (k:∀a Us,At g a (.tup Us)->At g' a (.tup Us)) (x:jd g d t V):jd g' d' t V:=by
 induction d generalizing d' t V with
 | zero=>exact x.elim
 | succ d ih =>
  induction d' using Nat.casesOn with
  | zero=>exact absurd h (Nat.not_succ_le_zero d)
  | succ d' =>
   induction t using PT.casesOn with
   | int m=>exact x
   | tup l =>
    obtain ⟨a,Vs,e,z,y⟩:=x
    exact ⟨a,Vs,e,k _ _ z,y.mono fun zw zw q=>ih (Nat.le_of_succ_le_succ h) q⟩
theorem jd.eq {h:Heap} {gs:Array GenState} {dr:Drawn} {n:Nat} {os:OsState} {d:Nat} {t:PT} {V U:Value} {A:Around} (hu:A.units + d < cLine) (x:jd h.get? d t V) (y:jd h.get? d t U):EqAt A ⟨h,gs,dr,n,os⟩ V U true:=by
 induction d generalizing t V U A with
 | zero=>exact x.elim
 | succ d ih =>
  induction t using PT.casesOn with
  | int m =>
   apply bc;intro ng
   obtain ⟨t,rfl⟩:=x; obtain ⟨u,rfl⟩:=y
   apply ng;clear ng
   have z:=EqAt.int_int (A:=A) (s:=⟨h,gs,dr,n,os⟩) m t m u
   rw [beq_self_eq_true] at z; exact z
  | tup l =>
   apply bc;intro ng
   obtain ⟨a,Vs,rfl,z1,x⟩:=x; obtain ⟨b,Us,rfl,z2,y⟩:=y
   apply ng;clear ng
   by_cases hab:a=b
   ·subst hab; exact EqAt.same _
   ·have lx:=x.len; have ly:=y.len
    have e5:((List.range (min Vs.toArray.size Us.toArray.size)).all (fun zw=>true) && Vs.toArray.size == Us.toArray.size)=true:=by simp; (first | decide | lia | omega)
    have z:=RcAt.tuples (A:=A) (s:=⟨h,gs,dr,n,os⟩) (e:=fun zw=>true) (items:=Vs.toArray) (items2:=Us.toArray) z1 z2 (by (first | decide | lia | omega)) fun j h1 h2=>by
     have j1:j < Vs.length:=by simpa using h1
     have j2:j < Us.length:=by simpa using h2
     apply bc;intro ng
     obtain ⟨v,w1,w2⟩:=x.rget (List.getElem?_eq_getElem j1)
     obtain ⟨u,w3,w4⟩:=y.rget (List.getElem?_eq_getElem j2)
     apply ng;clear ng
     rw [w1] at w3; cases w3
     exact ih (A:=A.in1) (by show A.units + 1 + d < _; (first | decide | lia | omega)) w2 w4
    rw [e5] at z
    exact EqAt.of_refs hab z
noncomputable def DH (g:AV->Option PT):List AV->Option (List PT)
 | []=>some []
 | v::r=>(g v).bind fun t=>(DH g r).map (t :: ·)
noncomputable def C5 (ρ:Rho) (f:Nat->Option AO):Nat->AV->Option PT
 | 0,_=>none
 | n + 1,v=>match v.i? with
  | some e=>some (.int (e.den ρ))
  | none=>((v.l?.bind f).bind AO.tup?).bind fun vs=>(DH (C5 ρ f n) vs).map .tup
theorem AY {ρ:Rho} {O:Opq} {h:Heap} {s:St} {as:List Addr} (T:EJ ρ O h s as) {n:Nat} {v:AV} {t:PT} {V:Value} (e:C5 ρ s.at n v=some t) (d:Dn ρ as v V):jd h.get? n t V:=by
 induction n generalizing v t V with
 | zero=>exact ap e
 | succ n ih =>
  unfold C5 at e
  induction ei:v.i? with
  | some ie =>
   rw [ei] at e
   cases e
   rw [cO ei] at d
   exact let ⟨t,e⟩:=d; ⟨t,e⟩
  | none =>
   rw [ei] at e
   apply bc;intro ng
   obtain ⟨vs,e1,e2⟩:=az e
   obtain ⟨l,e3,rfl⟩:=Option.map_eq_some_iff.mp e2
   obtain ⟨x,Vs,rfl,dv,z⟩:=bB T e1 d
   apply ng;clear ng
   refine ⟨x,Vs,rfl,z,?_⟩
   clear e e2 e1 z
   induction dv generalizing l with
   | nil=>cases e3; exact .nil
   | cons d1 _ ih2 =>
    apply bc;intro ng
    obtain ⟨t1,f1,f2⟩:=az e3
    obtain ⟨l1,f3,rfl⟩:=Option.map_eq_some_iff.mp f2
    apply ng;clear ng
    exact .cons (ih f1 d1) (ih2 _ f3)
noncomputable def Tr.tre (ρ:Rho) (n:Nat):Tr->Option PT | .leaf (.rt v) s=>C5 ρ s.at n v | _=>none
theorem Cc {ρ:Rho} {n:Nat} {t:Tr} {p:PT} (e:t.tre ρ n=some p):∃v s,t = .leaf (.rt v) s/\C5 ρ s.at n v=some p:=by
 induction t using Tr.casesOn with
 | leaf f s=>induction f with
  | rt v=>exact ⟨v,s,rfl,e⟩
  | _=>exact ap e
 | _=>exact ap e
noncomputable def Mo (P:Params) (ρ:Rho) (k:Nk):Option PT:=(sx P aA 40 545 [.loc (3 + k.last),.int (.c 1)] (bj++(k.T 3 0).map .fz)).tre ρ 6
theorem xH (P:Params) (ρ:Rho) (k:Nk) (h:k≠.pck):(Mo P ρ k).isSome=true:=by induction k using Nk.casesOn <;> first | exact absurd rfl h | kernel_rfl
noncomputable def Nd.tr (P:Params) (nd:Nd):PT:=(Mo P (dy nd.a) nd.k).getD (.tup [])
section
variable {w:World} {A:Around} {gs:Array GenState} {dr:Drawn} {os:OsState} {h:Heap} {n:Nat} {g:Gr} {F:List Addr}
theorem qh (W:Wd w h) (kg:be g h.get?) (Fo:aT w g F) {x:Addr} {nd:Nd} (N:bP g F x nd) (np:nd.k≠.pck) {t:Tok} (R:Room A 40) {Q:Value->Shared->Prop} {E:Value->Shared->Prop}
  (q:∀V h' n',h.StaysIn h'->jd h'.get? 6 (nd.tr w.params) V->Q V ⟨h',gs,dr,n',os⟩):wpAny (model pr w) A (call (.ref 545) [.ref x,.int 1 t]) Q E ⟨h,gs,dr,n,os⟩:=by
 apply bc;intro ng
 obtain ⟨as2,na,nx⟩:=N
 have hF:F.length=3:=by obtain ⟨_,_,_,rfl,_⟩:=id Fo; rfl
 have C0:Co w (dy nd.a) (OG w g) h.get? h (bj++(nd.k.T 3 0).map .fz) [] (F++as2):=by
  refine Co.all W kg ((gf Fo).app ?_)
  have key:∀{ys:List Addr} {us:List AO},All2 (fun x u=>aN (dy nd.a) (F++as2) g x u) ys us->All2 (fun a o=>aC (dy nd.a) (OG w g) (F++as2) h a o/\o.own=false) ys (us.map .fz):=by
   intro ys us x
   induction x with
   | nil=>exact .nil
   | cons p _ ih=>exact .cons ⟨p,rfl⟩ ih
  exact key nx
 obtain ⟨p,ep⟩:=Option.isSome_iff_exists.mp (xH w.params (dy nd.a) nd.k np)
 obtain ⟨v,s,e1,e2⟩:=Cc ep
 apply ng;clear ng
 have et:nd.tr w.params=p:=by unfold Nd.tr; refine aa ep ?_; rfl
 refine Hl (r0:=0) ay.no e1 R C0 (.cons ⟨x,by rw [List.getElem?_append_right (by (first | decide | lia | omega)),hF,Nat.add_sub_cancel_left]; exact na,rfl⟩ (.cons ⟨t,rfl⟩ .nil)) fun v' V h' as' n' ev C p' dv=>?_
 apply bc;intro ng
 cases ev
 apply ng;clear ng
 refine q V h' n' C.kp ?_
 refine aa et ?_
 exact AY C.hat e2 dv
end
end
section
set_option backward.match.sparseCases false
section
variable {w:World} {A:Around} {env:Env} {Er:Value->Shared->Prop} {st:Shared}
theorem nP {T:String} {f:Str} {fp pos:Pos} {e:Expr} {Q:Value->Shared->Prop} (hs:aK e=false)
  (q:wpAny (model pr w) A (eval (.Name f fp) env) (fun V s₁=>V = .type T/\wpAny (model pr w) A (eval e env) (fun U s₂=>wpAny (model pr w) A (call (.type T) [U]) Q Er s₂) Er s₁) Er st):wpAny (model pr w) A (eval (.Call (.Name f fp) [e] [] pos) env) Q Er st:=by
 refine Call_ (wpAny_mono q (fun V s₁ z=>?_) fun zw zw z=>z) (gF rfl)
 obtain ⟨rfl,z⟩:=z
 refine PyProof.Rows.callWith_type1 (e:=e) (rest:=[]) ?_ (aV hs) rfl
 exact PyProof.Rows.spliced_more (wpAny_mono z (fun U s₂ y=>PyProof.Rows.spliced_none y) fun zw zw y=>y) (aV hs)
theorem ju {a:Addr} {f:Str} {fp pos:Pos} {e:Expr} {es:List Expr} {Q:Value->Shared->Prop} (hk:keepIn (K w.params) (.ref a)=true) (hs:((e::es).all fun e=>!aK e)=true)
  (q:wpAny (model pr w) A (eval (.Name f fp) env) (fun V s₁=>V = .ref a/\wpAny (model pr w) A (spliced (backTo pos (starEach (e::es) env))) (fun vs s₂=>(K w.params).In s₂.heap/\wpAny (model pr w) A (call (.ref a) vs) Q Er s₂) Er s₁) Er st):wpAny (model pr w) A (eval (.Call (.Name f fp) (e::es) [] pos) env) Q Er st:=by
 refine Call_ (wpAny_mono q (fun V s₁ z=>?_) fun zw zw z=>z) (gF rfl)
 obtain ⟨rfl,z⟩:=z
 rw [List.all_cons,Bool.and_eq_true,Bool.not_eq_true'] at hs
 exact to (first:=[]) hk (aV hs.1) (ci hs.2).1 z
end
noncomputable def Cp (P:Params):Expr:=cg ((al P 551).getD 0 (.Pass default))
noncomputable def gZ (P:Params):Expr:=bq (Cp P)
noncomputable def q9:Expr->Expr | .ListComp e _ _ _=>e | e=>e
noncomputable def CN:Expr->Expr | .ListComp _ (g::_) _ _=>g.iter | e=>e
noncomputable def CO:Expr->Expr | .ListComp _ (g::_) _ _=>g.target | e=>e
noncomputable def kI:Expr->Scope | .ListComp _ _ s _=>s | _=>default
noncomputable def vq:Expr->Pos | .ListComp _ _ _ p=>p | e=>e.pos
theorem vf (P:Params):al P 551 = [.Return (some (.Call (.Name (bh (ax (Cp P))) (aR (ax (Cp P)))) [.ListComp (.Call (.Name (bh (ax (q9 (gZ P)))) (aR (ax (q9 (gZ P))))) [.Name (S' "node") (aR (bq (q9 (gZ P)))),.Name (S' "depth") (aR (bq (.Call (.Constant .none 0 default) (match q9 (gZ P) with | .Call _ (_::r) _ _=>r | _=>[]) [] default)))] [] (cf (q9 (gZ P)))) [⟨.Name (S' "node") (aR (CO (gZ P))),CN (gZ P),[],0⟩] (kI (gZ P)) (vq (gZ P))] [] (cf (Cp P)))) (rd ((al P 551).getD 0 (.Pass default)))]:=by kernel_rfl
noncomputable def nH:List AO:=[.dead,.cell (some (.int (.c 1)))]
noncomputable def yZ:St:=⟨[(S' "items",.loc 0)],[(S' "depth",1)],nH,[]⟩
theorem FN (P:Params):dN P 551=some (aY P 551):=by kernel_rfl
theorem vX (P:Params):aP (aY P 551) [.loc 0,.int (.c 1)]=some [(S' "items",.loc 0),(S' "depth",.int (.c 1))]:=by kernel_rfl
theorem F8 (P:Params):(⟨[(S' "items",AV.loc 0),(S' "depth",.int (.c 1))].reverse.filter (fun x=>decide ((aY P 551).scope.names.lookup x.1=some .local)),(ae (aY P 551).scope.names).zip ((List.range (ae (aY P 551).scope.names).length).map (([.dead]:List AO).length + ·)),[.dead]++(ae (aY P 551).scope.names).map (fun n=>.cell ([(S' "items",AV.loc 0),(S' "depth",.int (.c 1))].reverse.lookup n)),[]⟩:St)=yZ:=by kernel_rfl
theorem KM (P:Params):c9 (kI (gZ P)) (S' "node")=true/\cp (CN (gZ P))=false/\eJ yZ.cl (kI (gZ P)).names []=some [(S' "depth",1)]:=⟨by kernel_rfl,by kernel_rfl,by kernel_rfl⟩
theorem JD (P:Params):bA P aA 12 (bm P 551) (.Name (bh (ax (Cp P))) (aR (ax (Cp P)))) yZ = .leaf (.rt (.glb (.type "tuple"))) yZ:=by kernel_rfl
theorem JS (P:Params):bA P aA 12 (bm P 551) (CN (gZ P)) yZ = .leaf (.rt (.loc 0)) yZ:=by kernel_rfl
theorem LI (P:Params) (ls:List (Str×AV)) (s:Str) (p:Pos):bA P aA 12 (bL (kI (gZ P)) (bm P 551)) (.Name (bh (ax (q9 (gZ P)))) (aR (ax (q9 (gZ P))))) ⟨ls,[(S' "depth",1)],nH,[]⟩ = .leaf (.rt (.glb (.ref 545))) ⟨ls,[(S' "depth",1)],nH,[]⟩:=by kernel_rfl
theorem Df (P:Params) (x:Addr) (ls:List (Str×AV)):bZ (bL (kI (gZ P)) (bm P 551)) (S' "node") (.glb (.ref x)) ⟨ls,[(S' "depth",1)],nH,[]⟩ (fun s=>.leaf .nx s) = .leaf .nx ⟨(S' "node",.glb (.ref x))::ls,[(S' "depth",1)],nH,[]⟩:=by kernel_rfl
noncomputable def JP (P:Params):List Expr:=[.Name (S' "node") (aR (bq (q9 (gZ P)))),.Name (S' "depth") (aR (bq (.Call (.Constant .none 0 default) (match q9 (gZ P) with | .Call _ (_::r) _ _=>r | _=>[]) [] default)))]
theorem H9 (P:Params) (x:Addr) (ls:List (Str×AV)) (k:List AV->St->Tr):mP (fS P aA 12) (bL (kI (gZ P)) (bm P 551)) (JP P) ⟨(S' "node",.glb (.ref x))::ls,[(S' "depth",1)],nH,[]⟩ k=k [.glb (.ref x),.int (.c 1)] ⟨(S' "node",.glb (.ref x))::ls,[(S' "depth",1)],nH,[]⟩:=by kernel_rfl
theorem Bn (P:Params):keepIn (K P) (.ref 545)=true:=by kernel_rfl
end
section
variable {w:World} {A:Around} {gs:Array GenState} {dr:Drawn} {os:OsState} {h:Heap} {n:Nat} {g:Gr} {F:List Addr} {ρ:Rho} {O:Opq} {G:Gr} {env:Env} {hk:Hk} {n0 r0:Nat} {s:St} {as:List Addr}
theorem oy (H:H2 w ρ O hk r0) {e:Expr} {sc:Scope} {v:AV} {s':St} (hsc:env.scope=sc) (ev:bA w.params hk n0 sc e s = .leaf (.rt v) s') {Q:Value->Shared->Prop} {E:Value->Shared->Prop} (R:Room A (n0 + r0)) (S:SR w ρ O G env h s as)
  (q:∀V h' as' n',SR w ρ O G env h' s' as'->Pre as as'->Dn ρ as' v V->Q V ⟨h',gs,dr,n',os⟩):wpAny (model pr w) A (eval e env) Q E ⟨h,gs,dr,n,os⟩:=by
 exact sG H hsc ev R S q
noncomputable def k2 (vs:List AV) (s:St):Tr:=match vs with | [v1,v2]=>.leaf (.rt v1) { s with ls:=(S' "",v2)::s.ls } | _=>.fail
theorem Mg {s s0:St} {a b:List (Str×AV)} (e:({ s with ls:=a }:St) = { s0 with ls:=b }):a=b/\(s.ls=s0.ls->s=s0):=by
 refine ⟨congrArg St.ls e,fun h=>?_⟩
 obtain ⟨l1,c1,o1,p1⟩:=s
 obtain ⟨l2,c2,o2,p2⟩:=s0
 have h:l1=l2:=h
 have h1:c1=c2:=congrArg St.cl e
 have h2:o1=o2:=congrArg St.ob e
 have h3:p1=p2:=congrArg St.pc e
 exact aa h (aa h1 (aa h2 (aa h3 rfl)))
theorem nZ {vs:List AV} {s s0:St} {u1 u2:AV} (y:(k2 vs s).ok ρ fun f s'=>f = .rt u1/\s' = { s0 with ls:=(S' "",u2)::s0.ls }):vs = [u1,u2]/\s=s0:=by
 induction vs using List.casesOn with
 | nil=>exact y.elim
 | cons v1 vs=>induction vs using List.casesOn with
  | nil=>exact y.elim
  | cons v2 vs=>induction vs using List.casesOn with
   | cons v3 vs=>exact y.elim
   | nil =>
    have e1:v1=u1:=Fl.rt.inj y.1
    have e2:=Mg y.2
    have e3:=List.cons.inj e2.1
    refine aa e1 (aa (show v2=u2 from congrArg Prod.snd e3.1) ?_)
    exact ⟨rfl,e2.2 e3.2⟩
theorem qE (W:Wd w h) (kg:be g h.get?) (Fo:aT w g F) {a:Addr} {Vs:List Value} {nds:List Nd} {t:Tok} (I:At h.get? a (.lst Vs)) (It:All2 (fun V nd=>∃x,V = .ref x/\bP g F x nd/\nd.ok) Vs nds) (np:∀nd∈nds,nd.k≠.pck) (hz:Vs.length<=1000) (R:Room A 60) {Q:Value->Shared->Prop} {E:Value->Shared->Prop}
  (q:∀V h' n',h.StaysIn h'->jd h'.get? 7 (.tup (nds.map (Nd.tr w.params))) V->Q V ⟨h',gs,dr,n',os⟩):wpAny (model pr w) A (call (.ref 551) [.ref a,.int 1 t]) Q E ⟨h,gs,dr,n,os⟩:=by
 have HH:∀{ρ:Rho},H2 w ρ (OW h) aA 2:=H2.no (be.hb W)
 have C0:Co w (bu []) (OW h) h.get? h [.dead] [] [a]:=Co.all W (fun zw zw e=>e) (.cons ⟨trivial,rfl⟩ .nil)
 refine go (R.le (m:=54 + 1) (by (first | decide | lia | omega))) (FN w.params) (vX w.params) C0 (.cons ⟨a,rfl,rfl⟩ (.cons ⟨t,rfl⟩ .nil)) fun A' env h1 n1 as1 R1 esc p1 S1 E'=>?_
 have S1:SR w (bu []) (OW h) h.get? env h1 yZ as1:=by refine aa (Eq.symm (F8 w.params)) ?_; exact S1
 have esc:env.scope=bm w.params 551:=esc
 have RR:Room A' (12 + 2):=R1.le (by (first | decide | lia | omega))
 show wpAny _ _ (execs (al w.params 551) env) _ _ _
 rw [vf]
 refine wpAny_execs_cons (wpAny_Return_some (nP rfl (oy HH esc (JD w.params) RR S1 fun V h2 as2 n2 S2 p2 dv=>⟨dv,?_⟩)))
 obtain ⟨c1,c2,c3⟩:=KM w.params
 obtain ⟨Res,r1,r2⟩:=tE (px:=aR (CO (gZ w.params))) (elt:=q9 (gZ w.params)) (iter:=CN (gZ w.params)) (pos:=vq (gZ w.params)) c1 c2 c3 S2.cc
 refine r2 (oy HH esc (JS w.params) RR S2 fun V h3 as3 n3 S3 p3 dv=>?_)
 obtain ⟨a',ea,rfl⟩:=dv
 have:as3[0]? = some a:=p3.get (p2.get (p1.get rfl))
 rw [this] at ea; cases ea
 have hl:h3.IsList a Vs.toArray:=I.le fun o e=>S3.kp _ _ e
 refine wpAny_pyIter_list (s:=⟨h3,gs,dr,n3,os⟩) hl ?_
 have S4:=S3.stay (h':=h3.push { cls:=.type "list_iterator",data:=.fields #[.ref a,rawInt 0] }) fun zw zw e=>Heap.get?_push_of_some _ e
 have gi:h.get? h3.objs.size=none:=by
  induction qq:h.get? h3.objs.size with
  | none=>rfl
  | some x=>exact absurd (Heap.lt_size (S3.kp _ _ qq)) (Nat.lt_irrefl _)
 have off:jE [h3.objs.size] env.locals yZ.ob as3:=fun b m=>by
  refine aa (List.mem_singleton.mp m) ?_
  obtain ⟨f,N,_⟩:=S3.lc
  exact ⟨Nat.ne_of_gt N.lt,fun i o e ow e'=>absurd ((S3.ob i o _ e e').1.lt ow) (Nat.lt_irrefl _)⟩
 obtain ⟨fL,⟨oL,es,ep,l2,l3,l4⟩,lk⟩:=S4.lc
 have nL:∀vs m,oL.data≠.seq vs m:=fun vs m e=>by rw [l3] at e; cases e
 refine zd (fx:=[]) (N:=Vs.length) (RR.le (m:=0) (by (first | decide | lia | omega))) c1 (fun x i e=>let ⟨b,z1,z2⟩:=r1 x i e; ⟨b,p3.get z1,z2⟩) S4 (Nxt.list I) ⟨_,Heap.get?_push_size _ rfl,rfl,rfl⟩ hz gi off
  (fun i G1 ρ s Us=>ρ=bu []/\s.cl = [(S' "depth",1)]/\s.ob=nH/\s.pc = []/\All2 (fun nd U=>jd (strip [env.locals] G1) 6 (nd.tr w.params) U) (nds.take i) Us) (fun G' le=>⟨rfl,rfl,rfl,rfl,by refine aa List.take_zero ?_; exact .nil⟩) (fun zw m=>nomatch m) ?_ ?_
 ·intro i G1 G' ρ s Us cenv h5 n5 as5 V ac hi hV z1 gg g1 fr z2 hL lac nia csc nel S5 _ T E1 E2 qT
  apply bc;intro ng
  obtain ⟨ls,cl,ob,pc⟩:=s
  obtain ⟨rfl,rfl,rfl,rfl,hT⟩:=z1
  obtain ⟨ito,eit,nit⟩:=z2
  obtain ⟨nd,hnd,x,rfl,N,ok⟩:=It.get hV
  apply ng;clear ng
  have csc:cenv.scope=bL (kI (gZ w.params)) (bm w.params 551):=by exact aa csc (aa esc rfl)
  refine aW (post:=fun f s=>s=⟨(S' "node",.glb (.ref x))::ls,[(S' "depth",1)],nH,[]⟩) (v:=.glb (.ref x)) (k:=fun s=>.leaf .nx s) (by rw [csc,Df]; rfl) S5 rfl fun s6 h6 n6 y6 S6=>?_
  rw [show s6=_ from y6] at S6
  refine ju (Bn w.params) rfl (oy HH csc (LI w.params _ (S' "") default) RR S6 fun V h7 as7 n7 S7 p7 dv=>⟨dv,?_⟩)
  refine cR (post:=fun f s=>f = .rt (.glb (.ref x))/\s=⟨(S' "",.int (.c 1))::(S' "node",.glb (.ref x))::ls,[(S' "depth",1)],nH,[]⟩) (k:=k2) (HH.run 12) RR (by refine aa csc ?_; exact (congrArg (fun t=>Tr.ok _ _ t) (H9 w.params x ls k2)).mpr ⟨rfl,rfl⟩) S7 fun vs Ws s8 h8 as8 n8 y8 S8 p8 dvs hws=>⟨S8.k,?_⟩
  clear hws
  rw [(nZ (s0:=⟨(S' "node",.glb (.ref x))::ls,[(S' "depth",1)],nH,[]⟩) y8).1] at dvs
  rw [(nZ (s0:=⟨(S' "node",.glb (.ref x))::ls,[(S' "depth",1)],nH,[]⟩) y8).2] at S8
  apply bc;intro ng
  obtain ⟨W1,W2,eW,d1,t2,d2⟩:=dvs.two
  rw [eW,show W1 = .ref x from d1,d2] at ng
  apply ng;clear ng eW d1 d2 dvs y8 S5 S6 S7
  have kg8:be g h8.get?:=fun b o e=>S8.kp _ _ (g1 _ _ (gg _ _ (kg _ _ e)))
  refine qh S8.wd kg8 Fo N (np nd (List.mem_of_getElem? hnd)) (R1.le (by (first | decide | lia | omega))) fun V h9 n9 k9 tr9=>?_
  obtain ⟨S10,le10⟩:=(S8.stay k9).wide
  have cls:∀b Us,At h9.get? b (.tup Us)->At (strip [env.locals] (strip [h3.objs.size,ac] (dB h9 cenv.locals nH as8))) b (.tup Us):=by
   rintro b Us ⟨o,e1,e2,m,e3⟩
   have kb:∀x y,G' x=some y->h9.get? x=some y:=fun x y e=>k9 _ _ (S8.kp _ _ e)
   have nb:∀x y,h9.get? x=some y->(∀vs m,y.data≠.seq vs m)->b≠x:=fun x y e z q=>by rw [q,e] at e1; cases e1; exact z _ _ e3
   have b1:b≠env.locals:=nb _ oL (kb _ _ (hL oL l2)) nL
   have b2:b≠h3.objs.size:=nb _ ito (kb _ _ eit) nit
   have b3:b≠ac:=fun q=>by
    obtain ⟨o2,f1,m2,rfl⟩:=lac
    have:=kb _ _ f1
    rw [<- q,e1] at this; cases this
    have e2:Value.type "list" = .type "tuple":=e2
    injection e2 with z; exact absurd z (by decide)
   obtain ⟨fc,⟨oc,ec,epc,w1,w2,_⟩,_⟩:=S10.lc
   have b4:b≠cenv.locals:=nb _ oc w1 (fun vs m q=>by rw [w2] at q; cases q)
   refine ⟨o,?_,e2,m,e3⟩
   unfold strip; refine aa (if_neg (by simpa using b1)) (aa (if_neg (by simp [b2,b3])) ?_)
   unfold dB; rw [if_neg]
   ·exact e1
   ·rintro (z | z)
    ·exact b4 z
    ·obtain ⟨j,oj,z1,z2,z3⟩:=dA.mp z
     match j,z1 with
     | 0,z1=>cases z1; cases z2
     | 1,z1 =>
      cases z1
      obtain ⟨V,-,ov,q1,q2⟩:=(S10.ob 1 _ b rfl z3).1
      rw [e1] at q1; cases q1
      have q2:o.data = .cell V:=q2
      rw [e3] at q2; cases q2
     | j + 2,z1=>simp [nH] at z1
  refine qT _ (bu []) _ h9 n9 as8 _ le10 ⟨rfl,rfl,rfl,rfl,?_⟩ S10 fun zw m=>nomatch m
  refine aa List.take_add_one (aa hnd ?_)
  have up:be (strip [env.locals] G1) (strip [env.locals] (strip [h3.objs.size,ac] (dB h9 cenv.locals nH as8))):=fun x o e=>by
   unfold strip at e ⊢
   split at e
   ·exact ap e
   ·rename_i hx
    refine aa (if_neg hx) (aa (if_neg (fun m=>by rw [fr x m] at e; cases e)) ?_)
    exact le10 _ _ (g1 _ _ e)
  exact (hT.mono fun zw zw z=>z.mono (Nat.le_refl _) fun zw zw zz=>zz.le (up _)).app (.cons (tr9.mono (Nat.le_refl _) cls) .nil)
 ·rintro ρ ⟨ls,cl,ob,pc⟩ h5 n5 as5 G' ac Us ⟨rfl,rfl,rfl,rfl,hT⟩ gg back _ lac _ _
  have S5:=back [] [] (fun x v e=>by exact ap e) (fun x i e=>by exact ap e)
  have hl5:h5.IsList ac Us.toArray:=At.pl lac
  have ul:Us.length=Vs.length:=by refine aa (Eq.symm hT.len) (aa It.len ?_); simp
  refine call_tuple_list (s:=⟨h5,gs,dr,n5,os⟩) hl5 (fun h6 kk=>?_) (by simp; refine aa sizeLine_eq ?_; (first | decide | lia | omega))
  have hn:nds.take Vs.length=nds:=by refine aa It.len ?_; simp
  rw [hn] at hT
  have k7:∀b o,h5.get? b=some o->(h6.push { cls:=.type "tuple",data:=.seq Us.toArray }).get? b=some o:=fun b o e=>Heap.get?_push_of_some _ (kk b o e)
  refine q _ _ n5 (fun b o e=>k7 _ _ (S5.kp _ _ (gg b o e))) ⟨_,Us,rfl,⟨_,Heap.get?_push_size _ rfl,rfl,_,rfl⟩,?_⟩
  have map2:∀{l:List Nd} {m:List Value},All2 (fun nd U=>jd (strip [env.locals] G') 6 (nd.tr w.params) U) l m->All2 (fun t U=>jd (h6.push { cls:=.type "tuple",data:=.seq Us.toArray }).get? 6 t U) (l.map (Nd.tr w.params)) m:=by
   intro l m x
   induction x with
   | nil=>exact .nil
   | cons z _ ih=>exact .cons (z.mono (Nat.le_refl _) fun zw zw zz=>zz.le fun o e=>k7 _ _ (S5.kp _ _ e)) ih
  exact map2 hT
end
section
set_option backward.match.sparseCases false
noncomputable def zP:List AO:=[.tup [.int (.v 6),.int (.v 7)],.ns [(S' "ratio",.loc 0),(S' "order",.int (.v 5)),(S' "sign",.int (.v 4)),(S' "shift",.int (.v 3)),(S' "items",.loc 3),(S' "depth",.int (.v 2)),(S' "height",.int (.v 1)),(S' "width",.int (.v 0)),(S' "kind",.int (.c 2))],.inst 389 1]
def zA (g:Gr) (b a:Addr) (vs:List Int):Prop:=∃r d,All2 (fun x u=>aN (bu vs) [r,d,b,a] g x u) [r,d,b] zP
noncomputable def A0:List AO:=zP.map .fz++[.dead]
noncomputable def EF:List (Str×AV):=[(S' "kind",.int (.c 2)),(S' "depth",.int (.c 0)),(S' "node",.loc 2)]
noncomputable def qg (P:Params):Stmt:=(al P 545).getD 4 (.Pass default)
noncomputable def FM (P:Params):Stmt:=(ug (qg P)).getD 1 (.Pass default)
noncomputable def CK (P:Params):Expr:=cg (FM P)
noncomputable def Gf:Expr->Expr | .BinOp a _ _ _=>a | e=>e
noncomputable def Ae:Expr->Expr | .BinOp _ _ b _=>b | e=>e
noncomputable def MN:Expr->Pos | .BinOp _ _ _ p=>p | e=>e.pos
noncomputable def M9:Expr->Expr | .Tuple (e::_) _ _=>e | e=>e
noncomputable def HQ:Expr->Nat | .Tuple _ k _=>k | _=>0
noncomputable def Hu:Expr->Pos | .Tuple _ _ p=>p | e=>e.pos
noncomputable def mh (P:Params):Expr:=M9 (Ae (CK P))
theorem xX (P:Params):al P 545=(al P 545).take 4++(.If (cg (qg P)) ((ug (qg P)).take 1++[.Return (some (.BinOp (Gf (CK P)) .Add (.Tuple [.Call (.Name (bh (ax (mh P))) (aR (ax (mh P)))) [(aJ (mh P)).getD 0 (mh P),(aJ (mh P)).getD 1 (mh P)] [] (cf (mh P))] (HQ (Ae (CK P))) (Hu (Ae (CK P)))) (MN (CK P)))) (rd (FM P))]) [] (rd (qg P))::(al P 545).drop 5):=by kernel_rfl
theorem D6 (P:Params):dN P 545=some (aY P 545):=by kernel_rfl
theorem wo (P:Params):aP (aY P 545) [.loc 2]=some [(S' "node",.loc 2),(S' "depth",.int (.c 0))]:=by kernel_rfl
theorem F0 (P:Params):(⟨[(S' "node",AV.loc 2),(S' "depth",.int (.c 0))].reverse.filter (fun x=>decide ((aY P 545).scope.names.lookup x.1=some .local)),(ae (aY P 545).scope.names).zip ((List.range (ae (aY P 545).scope.names).length).map (A0.length + ·)),A0++(ae (aY P 545).scope.names).map (fun n=>.cell ([(S' "node",AV.loc 2),(S' "depth",.int (.c 0))].reverse.lookup n)),[]⟩:St)=⟨[(S' "depth",.int (.c 0)),(S' "node",.loc 2)],[],A0,[]⟩:=by kernel_rfl
noncomputable def wu:St:=⟨EF,[],A0,[]⟩
noncomputable def xZ:St:=⟨(S' "sizes",.loc 4)::EF,[],A0++[.tup [.int (.v 0),.int (.v 1),.int (.v 2),.int (.v 3),.int (.v 4),.int (.v 5),.loc 0]],[]⟩
noncomputable def Tr.sm (m:List Nat) (f':Fl) (s':St):Tr->Bool
 | .leaf f s=>(aq (gU m f f') (aM m s s')).any fun p=>(p.1++p.2).all ww
 | .br _ a b=>a.sm m f' s' && b.sm m f' s'
 | _=>false
theorem jF {ρ:Rho} {m:List Nat} {f':Fl} {s':St}:∀{t:Tr},t.sm m f' s'=true->(t.vc m f' s').den ρ ρ
 | .leaf f s,h=>by
  obtain ⟨p,e,h⟩:=cv h
  show (oG (aq (gU m f f') (aM m s s'))).den ρ ρ
  refine aa e ?_
  exact fZ h
 | .br c a b,h=>by
  have h:=Bool.and_eq_true_iff.mp h
  exact ⟨fun zw=>jF h.1,fun zw=>jF h.2⟩
 | .req _ _,h=>by exact bG h
 | .fail,h=>by exact bG h
theorem D1 (P:Params):(cx P aA 14 (bm P 545) ((al P 545).take 4) ⟨[(S' "depth",.int (.c 0)),(S' "node",.loc 2)],[],A0,[]⟩).sm [0,1,2,3] .nx wu=true:=by kernel_rfl
theorem Iv (P:Params):lG P aA 14 (bm P 545) (cg (qg P)) wu = .leaf (.rt (.bool true)) wu:=by kernel_rfl
theorem Gl (P:Params):(cx P aA 14 (bm P 545) ((ug (qg P)).take 1) wu).sm [0,1,2,3,4] .nx xZ=true:=by kernel_rfl
noncomputable def jN:St:=⟨xZ.ls,[],xZ.ob++[.tup [.int (.c 2)],.tup [.int (.c 2),.int (.v 0),.int (.v 1),.int (.v 2),.int (.v 3),.int (.v 4),.int (.v 5),.loc 0]],[]⟩
theorem LF (P:Params):bA P aA 14 (bm P 545) (Gf (CK P)) xZ = .leaf (.rt (.loc 6)) jN:=by kernel_rfl
theorem G9 (P:Params):bA P aA 14 (bm P 545) (.Name (bh (ax (mh P))) (aR (ax (mh P)))) jN = .leaf (.rt (.glb (.ref 551))) jN:=by kernel_rfl
theorem Jj (P:Params) (k:List AV->St->Tr):mP (fS P aA 14) (bm P 545) [(aJ (mh P)).getD 0 (mh P),(aJ (mh P)).getD 1 (mh P)] jN k=k [.loc 3,.int (.c 1)] jN:=by kernel_rfl
theorem Jt (P:Params):([(aJ (mh P)).getD 0 (mh P),(aJ (mh P)).getD 1 (mh P)].all fun e=>!aK e)=true:=by kernel_rfl
theorem H4 (P:Params):keepIn (K P) (.ref 551)=true:=by kernel_rfl
end
section
variable {w:World} {A:Around} {gs:Array GenState} {dr:Drawn} {os:OsState} {h:Heap} {n:Nat} {g:Gr} {F:List Addr}
noncomputable def zD (P:Params) (vs:List Int) (nds:List Nd):PT:=.tup [.int 2,.int (vs.getD 0 0),.int (vs.getD 1 0),.int (vs.getD 2 0),.int (vs.getD 3 0),.int (vs.getD 4 0),.int (vs.getD 5 0),.tup [.int (vs.getD 6 0),.int (vs.getD 7 0)],.tup (nds.map (Nd.tr P))]
theorem FH {as:List Addr} {vs:List Int} {Xs Rs:List Value} {T:Value} {t:PT} {r:Addr} {g1 g2:Gr} (x1:All2 (Dn (bu vs) as) [.int (.c 2),.int (.v 0),.int (.v 1),.int (.v 2),.int (.v 3),.int (.v 4),.int (.v 5),.loc 0] Xs) (y2:At g1 r (.tup Rs)) (y1:All2 (Dn (bu vs) as) [.int (.v 6),.int (.v 7)] Rs) (e0:as[0]? = some r) (k:be g1 g2) (tT:jd g2 7 t T) :
  All2 (jd g2 7) [.int 2,.int (vs.getD 0 0),.int (vs.getD 1 0),.int (vs.getD 2 0),.int (vs.getD 3 0),.int (vs.getD 4 0),.int (vs.getD 5 0),.tup [.int (vs.getD 6 0),.int (vs.getD 7 0)],t] (Xs++[T]):=by
 have int:∀{e:IE} {k:Nat} (X:Value),Dn (bu vs) as (.int e) X->jd g2 (k + 1) (.int (e.den (bu vs))) X:=fun X h=>h
 exact All2.app (l:=[.int 2,.int (vs.getD 0 0),.int (vs.getD 1 0),.int (vs.getD 2 0),.int (vs.getD 3 0),.int (vs.getD 4 0),.int (vs.getD 5 0),.tup [.int (vs.getD 6 0),.int (vs.getD 7 0)]]) (x1.rel (.cons int (.cons int (.cons int (.cons int (.cons int (.cons int (.cons int (.cons (fun X d=>⟨r,Rs,cA d e0,y2.le (k r),y1.rel (.cons int (.cons int .nil))⟩) .nil))))))))) (.cons tT .nil)
theorem kX (W:Wd w h) (kg:be g h.get?) (Fo:aT w g F) {a b:Addr} {vs:List Int} {Vs:List Value} {nds:List Nd} (I:At h.get? a (.lst Vs)) (It:All2 (fun V nd=>∃x,V = .ref x/\bP g F x nd/\nd.ok) Vs nds) (np:∀nd∈nds,nd.k≠.pck) (hz:Vs.length<=1000) (B:zA h.get? b a vs) (R:Room A 80) {Q:Value->Shared->Prop} {E:Value->Shared->Prop}
  (q:∀V h' n',h.StaysIn h'->jd h'.get? 8 (zD w.params vs nds) V->Q V ⟨h',gs,dr,n',os⟩):wpAny (model pr w) A (call (.ref 545) [.ref b]) Q E ⟨h,gs,dr,n,os⟩:=by
 have HH:∀{ρ:Rho},H2 w ρ (OW h) aA 2:=H2.no (be.hb W)
 apply bc;intro ng
 obtain ⟨r,d,bx⟩:=B
 have C0:Co w (bu vs) (OW h) h.get? h A0 [] [r,d,b,a]:=Co.all W (fun zw zw e=>e) (.cons ⟨bx.hd,rfl⟩ (.cons ⟨bx.tl.hd,rfl⟩ (.cons ⟨bx.tl.tl.hd,rfl⟩ (.cons ⟨trivial,rfl⟩ .nil))))
 refine ng (go (R.le (m:=74 + 1) (by decide)) (D6 w.params) (wo w.params) C0 (.cons ⟨b,rfl,rfl⟩ .nil) fun A' env h1 n1 as1 R1 esc p1 S1 E'=>?_); clear ng
 refine cW fun Q' E' kq zw=>?_
 replace esc:env.scope=bm w.params 545:=esc
 have RR:Room A' (14 + 2):=R1.le (by decide)
 rw [F0 w.params,p1.eq S1.sz] at S1
 refine aa (show (aY w.params 545).body=_ from xX w.params) ?_
 refine aH (zW HH esc rfl RR S1 rfl (as2:=[r,d,b,a]) rfl (jF (D1 w.params)) fun h2 n2 S2=>?_)
 refine wpAny_execs_cons (wpAny_If (rX HH esc (Iv w.params) RR S2 (fun zw=>rfl) fun c h3 as3 n3 ec S3 p3=>?_))
 refine aa (Eq.symm (AV.bool.inj (Fl.rt.inj ec))) (aa (if_pos rfl) ?_)
 rw [S2.same S3 p3 rfl] at S3
 show wpAny _ _ (execs (_++_) env) _ _ _
 refine aH (iT HH esc rfl RR S3 (jF (Gl w.params)) fun h4 as4 n4 S4 p4=>?_)
 apply bc;intro ng
 obtain ⟨u,rfl⟩:=p4
 refine ng (wpAny_execs_cons (wpAny_Return_some (wpAny_BinOp (sG HH esc (LF w.params) RR S4 fun V h5 as5 n5 S5 p5 dv=>?_)))); clear ng
 refine Tuple_ (PyProof.Rows.spliced_more (ju (H4 w.params) (Jt w.params) (sG HH esc (G9 w.params) RR S5 fun U h6 as6 n6 S6 p6 du=>⟨du,?_⟩)) rfl)
 refine cR (post:=fun f s=>f = .rt (.loc 3)/\s = { jN with ls:=(S' "",.int (.c 1))::jN.ls }) (k:=k2) (HH.run 14) RR (by refine aa esc ?_; exact (congrArg (fun t=>Tr.ok _ _ t) (Jj w.params k2)).mpr ⟨rfl,rfl⟩) S6 fun vs' Ws s8 h8 as8 n8 y8 S8 p8 dvs hws=>⟨S8.k,?_⟩
 clear hws
 rw [(nZ (s0:=jN) y8).1] at dvs
 rw [(nZ (s0:=jN) y8).2] at S8
 have p68:=p6.trans p8
 have dv:=dv.pre p68
 have p58:=p5.trans p68
 have e3:as8[3]? = some a:=p58.get rfl
 have e0:as8[0]? = some r:=p58.get rfl
 clear S1 S2 S3 S4 S5 S6 p3 p5 p6 p8 p68 p58 y8 du ec
 apply bc;intro ng
 obtain ⟨W1,W2,eW,d1,t2,d2⟩:=dvs.two
 rw [eW,cA d1 e3,d2] at ng
 refine ng (qE S8.wd (fun x o e=>S8.kp _ _ (kg _ _ e)) Fo (I.le fun o e=>S8.kp _ _ e) It np hz (R1.le (by decide)) fun T h9 n9 k9 tr9=>PyProof.Rows.spliced_none ?_); clear ng
 have S9:=S8.stay k9
 clear S8 dvs d1 eW
 refine wpAny_newObj_type (s:=⟨h9,gs,dr,n9,os⟩) ?_ (show 1<=sizeLine by refine aa sizeLine_eq ?_; decide)
 show wpAny _ _ _ _ _ ⟨h9.push { cls:=.type "tuple",data:=.seq [T].toArray },gs,dr,n9,os⟩
 have kp:h9.StaysIn (h9.push { cls:=.type "tuple",data:=.seq [T].toArray }):=fun zw zw e=>Heap.get?_push_of_some _ e
 have l2:IsTup (h9.push { cls:=.type "tuple",data:=.seq [T].toArray }) h9.objs.size [T].toArray:=⟨_,Heap.get?_push_size _ rfl,rfl,_,rfl⟩
 have S10:=S9.stay kp
 have trT:=tr9.mono (g':=(h9.push { cls:=.type "tuple",data:=.seq [T].toArray }).get?) (Nat.le_refl _) fun zw zw z=>z.le (kp _)
 generalize h9.push { cls:=.type "tuple",data:=.seq [T].toArray }=H at S10 l2 trT
 clear S9 kp tr9 k9
 apply bc;intro ng
 obtain ⟨v,ev,eV⟩:=(show Dn (bu vs) as8 (.loc 6) V from dv)
 obtain ⟨Xs,x1,x2⟩:=(S10.ob 6 _ v rfl ev).1
 obtain ⟨Rs,y1,y2⟩:=(S10.ob 0 _ r rfl e0).1
 rw [eV] at ng
 have ln:Xs.length=8:=x1.len.symm
 refine ng (Fe (n:=n9) x2 l2 (by simp; omega) (fun z=>by rw [z] at ln; cases ln) (fun zw z=>by cases z) fun zw zw=>?_); clear ng
 exact kq _ _ (q _ _ n9 (fun x o e=>Heap.get?_push_of_some _ (S10.kp _ _ e)) ⟨_,_,rfl,⟨_,Heap.get?_push_size _ rfl,rfl,_,rfl⟩,FH x1 y2 y1 e0 (fun x o e=>Heap.get?_push_of_some _ (S10.kp _ _ e)) (trT.mono (Nat.le_refl _) fun zw zw z=>z.le fun o e=>Heap.get?_push_of_some _ e)⟩)
end
def eP (it:Addr) (h h':Heap):Prop:=∀b o,b≠it->h.get? b=some o->h'.get? b=some o
structure NxP (w:World) (G:Gr) (tg:Expr) (it:Addr) (N:Nat) (J:Nat->Heap->Prop) (JO:Nat->Heap->Value->Prop) (P:Nat->Heap->Value->Prop):Prop where
 item:∀{i:Nat} {A:Around} {E:Value->Shared->Prop} {st:Shared} {Q:Option Value->Shared->Prop},i < N->J i st.heap->be G st.heap.get?->(∀h' V n',JO (i + 1) h' V->eP it st.heap h'->P i h' V->Q (some V) ⟨h',st.gens,st.drawn,n',st.os⟩)->wpAny (model pr w) A (pyNext (.ref it)) Q E st
 go:∀{i:Nat} {A:Around} {E:Value->Shared->Prop} {st:Shared} {Q:Unit->Shared->Prop} {V:Value},JO (i + 1) st.heap V->P i st.heap V->(∀h',J (i + 1) h'->eP it st.heap h'->P i h' V->Q () ⟨h',st.gens,st.drawn,st.toks,st.os⟩)->wpAny (model pr w) A (letOwnedTupleGo tg (.ref it) V) Q E st
 stop:∀{A:Around} {E:Value->Shared->Prop} {st:Shared} {Q:Option Value->Shared->Prop},A.handled=none->J N st.heap->be G st.heap.get?->(∀h',eP it st.heap h'->Q none { st with heap:=h' })->wpAny (model pr w) A (pyNext (.ref it)) Q E st
 keep:∀{i:Nat} {h h':Heap},J i h->(∀o,h.get? it=some o->h'.get? it=some o)->J i h'
 ex:∀{i:Nat} {h:Heap},J i h->∃o,h.get? it=some o
section
variable {w:World} {ρ:Rho} {O:Opq} {G:Gr} {env:Env} {A:Around} {gs:Array GenState} {dr:Drawn} {os:OsState} {s:St} {as:List Addr}
theorem FS {d:Nat} (hR:Room A d) {tg:Expr} {body:List Stmt} {it:Addr} {N:Nat} {J:Nat->Heap->Prop} {JO:Nat->Heap->Value->Prop} {P:Nat->Heap->Value->Prop} (X:NxP w G tg it N J JO P) {h:Heap} {n:Nat} (j0:J 0 h) (gi:G it=none) (off:jE [it] env.locals s.ob as) (S:SR w ρ O G env h s as) {RR:Result->Shared->Prop}
  (turn:∀i G' h n V,i < N->P i h V->be G G'->SR w ρ O G' env h s as->∀(T:Flow->Shared->Prop) (E1 E2:Value->Shared->Prop),(∀F h' n',(F = .next\/F = .cont)->SR w ρ O G' env h' s as->T F ⟨h',gs,dr,n',os⟩)->wpAny (model pr w) A (assign tg env V) (fun zw s₂=>wpAny (model pr w) A (execs body env) T E1 s₂) E2 ⟨h,gs,dr,n,os⟩)
  (done:∀h n,SR w ρ O G env h s as->RR (.ok .next) ⟨h,gs,dr,n,os⟩):codeAny (model pr w) A (.forLoop tg (.ref it) body [] env) RR ⟨h,gs,dr,n,os⟩:=by
 have fr:∀a∈[it],G a=none:=fun a m=>by refine aa (List.mem_singleton.mp m) ?_; exact gi
 refine codeAny_forLoop_any (fun k st=>∃i h n,k + i=N/\st=⟨h,gs,dr,n,os⟩/\J i h/\SR w ρ O G env h s as) (fun k st I=>?_) N ⟨0,h,n,rfl,rfl,j0,S⟩
 apply bc;intro ng
 obtain ⟨i,h,n,hk,rfl,j,S⟩:=I
 apply ng;clear ng
 have sb:∀{h h':Heap},eP it h h'->∀b x,b ∉ [it]->h.get? b=some x->h'.get? b=some x:=fun k b x m e=>k b x (fun q=>m (q▸.head _)) e
 by_cases hi:i < N
 ·refine X.item hi j (fun a o e=>S.kp a o e) fun h1 V n1 j1 k1 p1=>?_
  refine X.go (st:=⟨h1,gs,dr,n1,os⟩) j1 p1 fun h2 j2 k2 p2=>?_
  have S2:=(S.off fr off (sb k1)).off fr off (sb k2)
  have S3:=S2.pin (h:=h2) off fr
  refine turn i _ h2 n1 V hi p2 (be.add fr) S3 _ _ _ fun F h4 n4 hF S4=>?_
  apply bc;intro ng
  have ai:∀o,h2.get? it=some o->(G.add h2 [it]) it=some o:=fun o e=>by unfold Gr.add; refine aa (if_pos (.head _)) ?_; exact e
  have j4:J (i + 1) h4:=X.keep j2 fun o e=>S4.kp _ _ (ai o e)
  obtain ⟨S5,_,le5,_⟩:=S4.unpin (G0:=G) (l:=[it]) S.bs S.og fr (be.add fr) (fun a m=>by
   refine aa (List.mem_singleton.mp m) ?_
   obtain ⟨o,e⟩:=X.ex j2
   exact ⟨o,ai o e⟩) (fun b x zw e=>e)
  apply ng;clear ng
  have S6:SR w ρ O G env h4 s as:=by
   have eqG:strip [it] (G.add h2 [it])=G:=by
    funext b
    unfold strip Gr.add
    by_cases m:b∈[it]
    ·exact aa (if_pos m) (aa (fr b m) rfl)
    ·exact aa (if_neg m) (aa (if_neg m) rfl)
   rw [eqG] at S5; exact S5
  have z:∃m,m < k/\∃i h n,m + i=N/\(⟨h4,gs,dr,n4,os⟩:Shared)=⟨h,gs,dr,n,os⟩/\J i h/\SR w ρ O G env h s as:=⟨k - 1,by omega,i + 1,h4,n4,by omega,rfl,j4,S6⟩
  induction hF with
  | inl e=>refine aa e ?_; exact z
  | inr e=>refine aa e ?_; exact z
 ·have hiN:i=N:=by (first | lia | omega)
  exact X.stop hR.hd (hiN▸j) (fun a o e=>S.kp a o e) fun h1 k1=>wpAny_execs_nil (done h1 n (S.off fr off (sb k1)))
end
theorem eP.sb {it:Addr} {h h':Heap} (k:Heap.SameBut it h h'):eP it h h':=fun b o m e=>(k.2 b m).trans e
theorem NxP.keys {w:World} {G:Gr} {it d:Addr} {kvs:List (Int×Value)} {ep:Nat} {x:Str} {px:Pos} (D:∀h:Heap,be G h.get?->h.DictAt (intKind pr w) d kvs ep):NxP w G (.Name x px) it kvs.length (fun i h=>h.IsKeyIter it d i kvs.length ep) (fun i h zw=>h.IsKeyIter it d i kvs.length ep) (fun i zw V=>∃k v t,kvs[i]? = some (k,v)/\V = .int k t):=by
 refine ⟨fun {i A E st Q} hi j k q=>?_,fun {i A E st Q V} j p q=>wpAny_of_eq (a:=()) rfl (q _ j (fun zw zw zw e=>e) p),fun {A E st Q} hh j k q=>?_,fun {i h h'} j k=>?_,fun {i h} j=>?_⟩
 ·refine wpAny_pyNext_dict_item j (D _ k) (k:=(kvs[i]).1) (v:=(kvs[i]).2) (by simp [hi]) fun key h' hk j' hs=>?_
  obtain ⟨t,rfl⟩:=Value.isInt_shape hk
  exact q h' _ st.toks j' (.sb hs) ⟨(kvs[i]).1,(kvs[i]).2,t,by simp [hi],rfl⟩
 ·exact wpAny_pyNext_dict_end hh j (D _ k) (by simp) fun h' he=>q h' fun b o m e=>he b o m e
 ·obtain ⟨o,e,z⟩:=j; exact ⟨o,k o e,z⟩
 ·obtain ⟨o,e,_⟩:=j; exact ⟨o,e⟩
theorem NxP.items {w:World} {G:Gr} {it d:Addr} {kvs:List (Int×Value)} {ep:Nat} {elts:List Expr} {x1:Nat} {px:Pos} (D:∀h:Heap,be G h.get?->h.DictAt (intKind pr w) d kvs ep) :
  NxP w G (.Tuple elts x1 px) it kvs.length (fun i h=>∃ok ov,IsItemIter h it d i kvs.length ep ok ov) (fun i h V=>∃ok ov a,V = .ref a/\IsItemIterOut h it d i kvs.length ep ok ov a) (fun i h V=>∃a k v t,V = .ref a/\a≠it/\kvs[i]? = some (k,v)/\IsTup h a #[.int k t,v]):=by
 refine ⟨fun {i A E st Q} hi j k q=>?_,fun {i A E st Q V} j p q=>?_,fun {A E st Q} hh j k q=>?_,fun {i h h'} j k=>?_,fun {i h} j=>?_⟩
 ·obtain ⟨ok,ov,j⟩:=j
  refine wpAny_pyNext_items_item j (D _ k) (k:=(kvs[i]).1) (v:=(kvs[i]).2) (by simp [hi]) fun key h' hk j' ht zw hs=>?_
  apply bc;intro ng
  obtain ⟨t,rfl⟩:=Value.isInt_shape hk
  apply ng;clear ng
  have ne:st.heap.objs.size≠it:=Nat.ne_of_gt (Heap.lt_size j)
  exact q h' _ st.toks ⟨_,_,_,rfl,j'⟩ (fun b o m e=>hs b o m e) ⟨_,_,_,t,rfl,ne,by simp [hi],_,ht,rfl,_,rfl⟩
 ·obtain ⟨ok,ov,a,rfl,j⟩:=j
  refine wpAny_letOwnedTupleGo_items j fun h' j' hs=>q h' ⟨_,_,j'⟩ (.sb hs) ?_
  apply bc;intro ng
  obtain ⟨a',k,v,t,e1,ne,e2,o,e3,e4⟩:=p
  apply ng;clear ng
  exact ⟨a',k,v,t,e1,ne,e2,o,(hs.2 a' ne).trans e3,e4⟩
 ·obtain ⟨ok,ov,j⟩:=j
  exact wpAny_pyNext_items_end hh j (D _ k) (by simp) fun h' he=>q h' fun b o m e=>he b o m e
 ·obtain ⟨ok,ov,j⟩:=j; exact ⟨ok,ov,k _ j⟩
 ·obtain ⟨ok,ov,j⟩:=j; exact ⟨_,j⟩
noncomputable def ny (l:List Int):List AV:=l.map fun n=>.int (.c n)
noncomputable def Bl:List AO:=[.fz (.dc [(97,.loc 1),(98,.loc 2),(99,.loc 3)]),.fz (.tup (ny [5,7,2,0,0,0])),.fz (.tup (ny [11,3,0,0,0,0])),.fz (.tup (ny [4,1,9,0,0,0]))]
noncomputable def CP:Nat->Int | 0=>97 | 1=>98 | _=>99
noncomputable def yu (P:Params):Stmt:=(al P 718).getD 0 (.Pass default)
noncomputable def zQ:St:=⟨[(S' "chars",.loc 0)],[],Bl,[]⟩
theorem w6 (P:Params):al P 718 = [.For (.Name (bh (cB (yu P))) (aR (cB (yu P)))) (aQ (yu P)) (bf (yu P)) [] (yu P).pos]:=by kernel_rfl
theorem DX (P:Params):dN P 718=some (aY P 718):=by kernel_rfl
theorem xS (P:Params):aP (aY P 718) [.loc 0]=some [(S' "chars",.loc 0)]:=by kernel_rfl
theorem CW (P:Params):(⟨[(S' "chars",AV.loc 0)].reverse.filter (fun x=>decide ((aY P 718).scope.names.lookup x.1=some .local)),(ae (aY P 718).scope.names).zip ((List.range (ae (aY P 718).scope.names).length).map (Bl.length + ·)),Bl++(ae (aY P 718).scope.names).map (fun n=>.cell ([(S' "chars",AV.loc 0)].reverse.lookup n)),[]⟩:St)=zQ:=by kernel_rfl
theorem K1 (P:Params):bA P aA 12 (bm P 718) (aQ (yu P)) zQ = .leaf (.rt (.loc 0)) zQ/\cp (aQ (yu P))=false:=⟨by kernel_rfl,by kernel_rfl⟩
theorem ID (P:Params) (i:Nat) (h:i < 3):(vb P aA 16 (bm P 718) (bh (cB (yu P))) (.int (.c (CP i))) (bf (yu P)) zQ).sm [0,1,2,3] .ct zQ=true:=by
 match i,h with
 | 0,_=>kernel_rfl
 | 1,_=>kernel_rfl
 | 2,_=>kernel_rfl
noncomputable def mQ (P:Params):Stmt:=(al P 711).getD 0 (.Pass default)
noncomputable def wy:St:=⟨[(S' "many",.int (.c 0)),(S' "chars",.loc 0)],[],Bl,[]⟩
noncomputable def Ex:Expr->List Expr | .Tuple l _ _=>l | _=>[]
theorem xp (P:Params):al P 711 = [.For (.Tuple (Ex (cB (mQ P))) (HQ (cB (mQ P))) (Hu (cB (mQ P)))) (.Call (.Attribute (ca (ax (aQ (mQ P)))) (S' "items") (d6 (ax (aQ (mQ P))))) [] [] (cf (aQ (mQ P)))) (bf (mQ P)) [] (mQ P).pos]:=by kernel_rfl
theorem Ep (P:Params):dN P 711=some (aY P 711):=by kernel_rfl
theorem xW (P:Params):aP (aY P 711) [.loc 0,.int (.c 0)]=some [(S' "chars",.loc 0),(S' "many",.int (.c 0))]:=by kernel_rfl
theorem DP (P:Params):(⟨[(S' "chars",AV.loc 0),(S' "many",.int (.c 0))].reverse.filter (fun x=>decide ((aY P 711).scope.names.lookup x.1=some .local)),(ae (aY P 711).scope.names).zip ((List.range (ae (aY P 711).scope.names).length).map (Bl.length + ·)),Bl++(ae (aY P 711).scope.names).map (fun n=>.cell ([(S' "chars",AV.loc 0),(S' "many",.int (.c 0))].reverse.lookup n)),[]⟩:St)=wy:=by kernel_rfl
noncomputable def L8 (P:Params):Expr:=ca (ax (aQ (mQ P)))
theorem JJ (P:Params):bA P aA 12 (bm P 711) (L8 P) wy = .leaf (.rt (.loc 0)) wy/\cr (L8 P)=false/\((d6 (ax (aQ (mQ P)))).endLine == (cf (aQ (mQ P))).line)=true:=⟨by kernel_rfl,by kernel_rfl,by kernel_rfl⟩
noncomputable def Jh (P:Params) (i:Nat):Tr:=dD P (fS P aA 28) (bm P 711) (Ex (cB (mQ P))) [.int (.c (CP i)),.loc (1 + i)] wy fun s=>qm (fS P aA 28) (bm P 711) (bf (mQ P)) s fun f s=>.leaf f { s with pc:=[] }
theorem Lf (P:Params) (i:Nat) (h:i < 3):(Jh P i).sm [0,1,2,3] .ct wy=true:=by
 match i,h with
 | 0,_=>kernel_rfl
 | 1,_=>kernel_rfl
 | 2,_=>kernel_rfl
theorem EU (P:Params):(Ex (cB (mQ P))).all cM=true/\(Ex (cB (mQ P))).length=2:=⟨by kernel_rfl,by kernel_rfl⟩
theorem oa {ρ:Rho} {as:List Addr}:∀{Vs:List Value} {ns:List Int},IntsAre Vs ns->All2 (Dn ρ as) (ny ns) Vs
 | _,_,.nil=>.nil
 | _,_,.cons a t x=>.cons ⟨t,rfl⟩ (oa x)
structure Let3 (h:Heap) (d t1 t2 t3:Addr):Prop where
 d:eT h.get? d [(97,.ref t1),(98,.ref t2),(99,.ref t3)]
 a:hA h.get? t1 [5,7,2,0,0,0]
 b:hA h.get? t2 [11,3,0,0,0,0]
 c:hA h.get? t3 [4,1,9,0,0,0]
section
variable {w:World} {A:Around} {gs:Array GenState} {dr:Drawn} {os:OsState} {h:Heap} {n:Nat} {d t1 t2 t3:Addr}
theorem Let3.tab (L:Let3 h d t1 t2 t3) (W:Wd w h):Co w (bu []) (OW h) h.get? h Bl [] [d,t1,t2,t3]:=by
 apply bc;intro ng
 obtain ⟨Va,a1,a2⟩:=L.a
 obtain ⟨Vb,b1,b2⟩:=L.b
 obtain ⟨Vc,c1,c2⟩:=L.c
 apply ng;clear ng
 exact Co.all W (fun zw zw e=>e) (.cons ⟨⟨_,.cons ⟨rfl,t1,rfl,rfl⟩ (.cons ⟨rfl,t2,rfl,rfl⟩ (.cons ⟨rfl,t3,rfl,rfl⟩ .nil)),L.d⟩,rfl⟩ (.cons ⟨⟨Va,oa a1,a2⟩,rfl⟩ (.cons ⟨⟨Vb,oa b1,b2⟩,rfl⟩ (.cons ⟨⟨Vc,oa c1,c2⟩,rfl⟩ .nil))))
theorem Let3.at (L:Let3 h d t1 t2 t3):∃ep,∀h':Heap,be h.get? h'.get?->h'.DictAt (intKind pr w) d [(97,.ref t1),(98,.ref t2),(99,.ref t3)] ep:=by
 apply bc;intro ng
 obtain ⟨-,o,e,z⟩:=L.d
 obtain ⟨es,ep,z1,z2,z3⟩:=z w
 apply ng;clear ng
 exact ⟨ep,fun h' k=>⟨o,es,k _ _ e,z1,z2,z3⟩⟩
theorem tL {as as' r:List Addr} (hF:as.take 4=r) (p:Pre as as') (hr:r.length=4):([0,1,2,3].map fun j=>as'.getD j 0)=r:=by
 obtain ⟨t,rfl⟩:=p
 subst hF
 match as,hr with
 | a0::a1::a2::a3::r,_=>rfl
theorem nG (W:Wd w h) (L:Let3 h d t1 t2 t3) (R:Room A 60) {Q:Value->Shared->Prop} {E:Value->Shared->Prop}
  (q:∀h' n',h.StaysIn h'->Q .none ⟨h',gs,dr,n',os⟩):wpAny (model pr w) A (call (.ref 718) [.ref d]) Q E ⟨h,gs,dr,n,os⟩:=by
 have HH:∀{ρ:Rho},H2 w ρ (OW h) aA 2:=H2.no (be.hb W)
 refine go (R.le (m:=58 + 1) (by (first | decide | lia | omega))) (DX w.params) (xS w.params) (L.tab W) (.cons ⟨d,rfl,rfl⟩ .nil) fun A' env h1 n1 as1 R1 esc p1 S1 E'=>?_
 have S1:SR w (bu []) (OW h) h.get? env h1 zQ as1:=by refine aa (Eq.symm (CW w.params)) ?_; exact S1
 have esc:env.scope=bm w.params 718:=esc
 show wpAny _ _ (execs (al w.params 718) env) _ _ _
 rw [w6]
 apply bc;intro ng
 obtain ⟨i1,i2⟩:=K1 w.params
 apply ng;clear ng
 refine wpAny_execs_cons (wpAny_For (oy HH esc i1 (R1.le (m:=12 + 2) (by (first | decide | lia | omega))) S1 fun V h2 as2 n2 S2 p2 dv=>?_) (dO i2))
 have S2:SR w (bu []) (OW h) h.get? env h2 zQ [d,t1,t2,t3]:=by
  have e:=p1.eq S1.sz
  rw [e] at S1 p2
  exact S1.same S2 p2 rfl▸S2
 apply bc;intro ng
 obtain ⟨x,ex,rfl⟩:=dv
 have:as2[0]? = some d:=p2.get (p1.get rfl)
 rw [this] at ex; cases ex
 obtain ⟨ep,D⟩:=L.at (w:=w)
 apply ng;clear ng
 refine wpAny_pyIter_dict (s:=⟨h2,gs,dr,n2,os⟩) L.d.1 (D h2 S2.kp) ?_
 have S3:=S2.stay (h':=h2.push { cls:=.type "dict_keyiterator",data:=.fields #[.ref d,.int 0 0,.int 3 0,.int ep 0] }) fun zw zw e=>Heap.get?_push_of_some _ e
 have gi:h.get? h2.objs.size=none:=by
  induction qq:h.get? h2.objs.size with
  | none=>rfl
  | some y=>exact absurd (Heap.lt_size (S2.kp _ _ qq)) (Nat.lt_irrefl _)
 have off:jE [h2.objs.size] env.locals zQ.ob [d,t1,t2,t3]:=fun b m=>by
  refine aa (List.mem_singleton.mp m) ?_
  apply bc;intro ng
  obtain ⟨f,N,_⟩:=S2.lc
  apply ng;clear ng
  exact ⟨Nat.ne_of_gt N.lt,fun i o e ow e'=>absurd ((S2.ob i o _ e e').1.lt ow) (Nat.lt_irrefl _)⟩
 refine FS R1 (NxP.keys (kvs:=[(97,.ref t1),(98,.ref t2),(99,.ref t3)]) D) ⟨_,Heap.get?_push_size _ rfl,rfl,rfl⟩ gi off S3 ?_ ?_
 ·rintro i G' h5 n5 V hi z1 le S5 T E1 E2 qT
  apply bc;intro ng
  obtain ⟨k,v,t,hk,rfl⟩:=z1
  have hi:i < 3:=hi
  have ek:k=CP i:=by
   match i,hi,hk with
   | 0,_,hk=>cases hk; rfl
   | 1,_,hk=>cases hk; rfl
   | 2,_,hk=>cases hk; rfl
  subst ek
  apply ng;clear ng
  refine wpAny_assign_Name (tV (n0:=16) (v:=.int (.c (CP i))) HH esc rfl (R1.le (m:=16 + 2) (by (first | decide | lia | omega))) S5 ⟨t,rfl⟩ (jF (ID w.params i hi)) fun F h6 as6 n6 hF S6 p6=>?_)
  rw [tL rfl p6 rfl] at S6
  exact qT F h6 n6 hF S6
 ·intro h5 n5 S5
  exact wpAny_execs_nil (q h5 n5 S5.kp)
end
section
variable {w:World} {A:Around} {gs:Array GenState} {dr:Drawn} {os:OsState} {h:Heap} {n:Nat} {d t1 t2 t3:Addr} {env:Env}
theorem Nz {o:Expr} {apos pos:Pos} {st:Shared} {Q:Value->Shared->Prop} {Er:Value->Shared->Prop} (c1:(apos.endLine == pos.line)=true) (c3:cr o=false)
  (q:wpAny (model pr w) A (eval o env) (fun V s₁=>∃d kvs,V = .ref d/\eT s₁.heap.get? d kvs/\Q (.ref s₁.heap.objs.size) { s₁ with heap:=s₁.heap.push { cls:=.type "dict_items",data:=.fields #[.ref d] } }) Er st) :
  wpAny (model pr w) A (eval (.Call (.Attribute o (S' "items") apos) [] [] pos) env) Q Er st:=by
 show wpAny (model pr w) A (do
  let ov <- attributeBase o (S' "items") env (eval o env)
  standAt apos.atName
  methodCall o (S' "items") apos pos env ov (0 + 0) (backTo pos (starEach [] env)) []) Q Er _
 refine aa (eR c3) ?_
 refine wpAny_bind (wpAny_mono q (fun V s₁ z=>?_) fun zw zw z=>z)
 apply bc;intro ng
 obtain ⟨d,kvs,rfl,D,z⟩:=z
 apply ng;clear ng
 refine wpAny_bind (wpAny_standAt ?_)
 unfold methodCall
 refine aa (show methodCallForm (0 + 0) (backTo pos (starEach [] env)) []=true from rfl) ?_
 have D':=D.of w
 refine wpAny_bind (wpAny_holding (getMethod_builtin D'.typeIs PySem.F.plainAttrs_dict PySem.F.slot_dict_items PySem.F.type_dict_items (fun a e=>?_) ?_))
 ·cases e
  apply bc;intro ng
  obtain ⟨o1,es,ep,e1,e2,_⟩:=D'
  apply ng;clear ng
  exact ⟨o1,e1,e2.2.1⟩
 refine wpAny_bind (wpAny_of_eq (show methodCallPos true o env apos pos=pure pos from ?_) ?_)
 ·unfold methodCallPos; refine aa c1 ?_; simp
 exact method_meetsIn F.slot_dict_items F.entry_dict_items rfl (PyProof.Rows.evalArgs_none ⟨rfl,D'.typeIs,F.args_dict_items_1 _,_,meets_dict_items _ d D.1,⟨kvs,D'⟩,z⟩)
theorem qQ (W:Wd w h) (L:Let3 h d t1 t2 t3) {t:Tok} (R:Room A 60) {Q:Value->Shared->Prop} {E:Value->Shared->Prop}
  (q:∀h' n',h.StaysIn h'->Q .none ⟨h',gs,dr,n',os⟩):wpAny (model pr w) A (call (.ref 711) [.ref d,.int 0 t]) Q E ⟨h,gs,dr,n,os⟩:=by
 have HH:∀{ρ:Rho},H2 w ρ (OW h) aA 2:=H2.no (be.hb W)
 refine go (R.le (m:=58 + 1) (by (first | decide | lia | omega))) (Ep w.params) (xW w.params) (L.tab W) (.cons ⟨d,rfl,rfl⟩ (.cons ⟨t,rfl⟩ .nil)) fun A' env h1 n1 as1 R1 esc p1 S1 E'=>?_
 have S1:SR w (bu []) (OW h) h.get? env h1 wy as1:=by refine aa (Eq.symm (DP w.params)) ?_; exact S1
 have esc:env.scope=bm w.params 711:=esc
 show wpAny _ _ (execs (al w.params 711) env) _ _ _
 rw [xp]
 apply bc;intro ng
 obtain ⟨i1,i2,i3⟩:=JJ w.params
 apply ng;clear ng
 refine wpAny_execs_cons (wpAny_For (Nz i3 i2 (oy HH esc i1 (R1.le (m:=12 + 2) (by (first | decide | lia | omega))) S1 fun V h2 as2 n2 S2 p2 dv=>?_)) fun x=>rfl)
 have S2:SR w (bu []) (OW h) h.get? env h2 wy [d,t1,t2,t3]:=by
  have e:=p1.eq S1.sz
  rw [e] at S1 p2
  exact S1.same S2 p2 rfl▸S2
 apply bc;intro ng
 obtain ⟨x,ex,rfl⟩:=dv
 have:as2[0]? = some d:=p2.get (p1.get rfl)
 rw [this] at ex; cases ex
 obtain ⟨ep,D⟩:=L.at (w:=w)
 apply ng;clear ng
 refine ⟨d,_,rfl,L.d.le (S2.kp d),?_⟩
 have S2b:=S2.stay (h':=h2.push { cls:=.type "dict_items",data:=.fields #[.ref d] }) fun zw zw e=>Heap.get?_push_of_some _ e
 have hv:(h2.push { cls:=.type "dict_items",data:=.fields #[.ref d] }).IsItemsView h2.objs.size d:=⟨_,Heap.get?_push_size _ rfl,rfl,rfl⟩
 show wpAny _ _ _ _ _ ⟨h2.push _,gs,dr,n2,os⟩
 generalize h2.objs.size=va at hv
 generalize h2.push { cls:=.type "dict_items",data:=.fields #[.ref d] }=h2 at S2b hv
 refine wpAny_pyIter_items (s:=⟨h2,gs,dr,n2,os⟩) hv (D h2 S2b.kp) ?_
 have S3:=S2b.stay (h':=h2.push { cls:=.type "dict_itemiterator",data:=.fields #[.none,.bool false,.ref d,.int 0 0,.int 3 0,.int ep 0,.none,.none] }) fun zw zw e=>Heap.get?_push_of_some _ e
 have gi:h.get? h2.objs.size=none:=by
  induction qq:h.get? h2.objs.size with
  | none=>rfl
  | some y=>exact absurd (Heap.lt_size (S2b.kp _ _ qq)) (Nat.lt_irrefl _)
 have off:jE [h2.objs.size] env.locals wy.ob [d,t1,t2,t3]:=fun b m=>by
  refine aa (List.mem_singleton.mp m) ?_
  apply bc;intro ng
  obtain ⟨f,N,_⟩:=S2b.lc
  apply ng;clear ng
  exact ⟨Nat.ne_of_gt N.lt,fun i o e ow e'=>absurd ((S2b.ob i o _ e e').1.lt ow) (Nat.lt_irrefl _)⟩
 apply bc;intro ng
 obtain ⟨g1,g2⟩:=EU w.params
 apply ng;clear ng
 refine FS R1 (NxP.items (kvs:=[(97,.ref t1),(98,.ref t2),(99,.ref t3)]) D) ⟨_,_,Heap.get?_push_size _ rfl⟩ gi off S3 ?_ ?_
 ·rintro i G' h5 n5 V hi zq22 le S5 T E1 E2 qT
  apply bc;intro ng
  obtain ⟨a,k,v,t',rfl,-,hk,tp⟩:=zq22
  have hi:i < 3:=hi
  have ek:k=CP i/\∃tj,[d,t1,t2,t3][1 + i]? = some tj/\v = .ref tj:=by
   match i,hi,hk with
   | 0,_,hk=>cases hk; exact ⟨rfl,_,rfl,rfl⟩
   | 1,_,hk=>cases hk; exact ⟨rfl,_,rfl,rfl⟩
   | 2,_,hk=>cases hk; exact ⟨rfl,_,rfl,rfl⟩
  obtain ⟨rfl,tj,ej,rfl⟩:=ek
  apply ng;clear ng
  have y:(Jh w.params i).ok (bu []) _:=cU (jF (ρ:=bu []) (Lf w.params i hi))
  unfold Jh at y
  have RR:Room A' (28 + 2):=R1.le (by (first | decide | lia | omega))
  refine assign_Tuple_tuple (s:=⟨h5,gs,dr,n5,os⟩) R1.hd tp (by refine aa ((gv g1).1) (aa g2 ?_); rfl) (gH g1) fun h6 hx=>?_
  refine dZ (HH.run 28) RR (vs:=[.int (.c (CP i)),.loc (1 + i)]) g1 (by refine aa esc ?_; exact y) (S5.stayX hx) (.cons ⟨t',rfl⟩ (.cons ⟨tj,ej,rfl⟩ .nil)) fun s7 h7 as7 n7 y7 S7 p7=>?_
  rw [<- esc] at y7
  refine cq (HH.run 28) RR y7 S7 fun fl F s8 h8 as8 n8 y8 S8 p8 df=>?_
  apply bc;intro ng
  obtain ⟨l0,l,z1,z2,z3,z4⟩:=y8
  apply ng;clear ng
  have S9:=(S8.pcs (pc:=[]) fun zw m=>(nomatch m)).re (s':=wy) [0,1,2,3] z3 z4
  rw [tL (as:=[d,t1,t2,t3]) rfl (p7.trans p8) rfl] at S9
  refine qT F h8 n8 ?_ S9
  induction fl with
  | nx=>exact .inl df
  | ct=>exact .inr df
  | rt v=>exact ap z1
  | bk=>exact ap z1
 ·intro h5 n5 S5
  exact wpAny_execs_nil (q h5 n5 S5.kp)
end
section
open AutoSeq1 (wpAny_loadPart')
set_option tactic.hygienic true
theorem M8 {M:Model} {A:Around} {f:List (Code×Pos)->Bool} {Q:Bool->Shared->Prop} {E E2:Value->Shared->Prop} {s:Shared} (q:∀b,Q b s):wpAny M A stack (fun st s=>wpAny M A (pure (f st)) Q E s) E2 s:=wpAny_stack_any fun st=>wpAny_pure (q _)
theorem ql (l:Addr) (items:Array Value) (n:Nat) (dct:Option Addr) (sl:Array (Option Value)) :
  Meets (Builtin.«enumerate.__new__» ⟨[.type "enumerate",.ref l],[]⟩) (fun zw R s=>s.heap.get? l=some { cls:=.type "tuple",dict:=dct,data:=.seq items n,slots:=sl }/\
   R (.ok (.ret (.ref (s.heap.push { cls:=.type "tuple_iterator",data:=.fields #[.ref l,.int 0 0] }).objs.size)))
    { s with heap:=(s.heap.push { cls:=.type "tuple_iterator",data:=.fields #[.ref l,.int 0 0] }).push { cls:=.type "enumerate",data:=.fields #[.none,.bool false,.ref s.heap.objs.size,rawInt 0,.none,.none] } }) :=
 .of_wp fun prog w A R s h=>by
  obtain ⟨hp,g,d,tk,os⟩:=s; obtain ⟨hl,h⟩:=h
  have hsub:=sub_enumerate
  have hL:Heap.IsTuple (Shared.heap ⟨hp,g,d,tk,os⟩) l items:=⟨_,hl,rfl,n,rfl⟩
  wp_walk using wpAny_loadPart' hl
  refine M8 fun b=>?_
  cases b
  ·wp_walk using wpAny_loadPart' hl,wpAny_pyIter_tuple hL
   exact ⟨_,rfl,h⟩
  ·wp_walk using wpAny_loadPart' hl,wpAny_pyIter_tuple hL
   exact ⟨_,rfl,h⟩
set_option tactic.hygienic false
section
variable {prog:Program} {w:World} {A:Around} {E:Value->Shared->Prop} {s:Shared}
theorem nQ {l:Addr} {items:Array Value} {Q:Value->Shared->Prop} (hL:IsTup s.heap l items)
  (h:∀h',IsEnum h' (s.heap.objs.size + 1) s.heap.objs.size 0 .none->h'.IsTupleIter s.heap.objs.size l 0->(∀b o,s.heap.get? b=some o->h'.get? b=some o)->Q (.ref (s.heap.objs.size + 1)) { s with heap:=h' }) :
  wpAny (model prog w) A (call (.type "enumerate") [.ref l]) Q E s:=by
 apply bc;intro ng
 obtain ⟨⟨c,dct,dt,sl⟩,hl,hc,n,hd⟩:=hL
 replace hc:c = .type "tuple":=hc
 replace hd:dt = .seq items n:=hd
 subst hc hd
 apply ng;clear ng
 refine callType_new F.called_enumerate (by decide) (F.typeCall_enumerate_1 _) (F.newCall_enumerate_1 _) (fun obj=>F.args_object_init_2 obj _) F.entry_enumerate_new
  (ql l items n dct sl) ⟨hl,?_⟩
 have hz:(s.heap.push { cls:=.type "tuple_iterator",data:=.fields #[.ref l,.int 0 0] }).objs.size=s.heap.objs.size + 1:=Heap.size_push ..
 show _/\_
 refine aa hz ?_
 have he:IsEnum ((s.heap.push { cls:=.type "tuple_iterator",data:=.fields #[.ref l,.int 0 0] }).push
   { cls:=.type "enumerate",data:=.fields #[.none,.bool false,.ref s.heap.objs.size,rawInt 0,.none,.none] }) (s.heap.objs.size + 1) s.heap.objs.size 0 .none:=by
  have:=Heap.get?_push_size (s.heap.push { cls:=.type "tuple_iterator",data:=.fields #[.ref l,.int 0 0] })
   (o:={ cls:=.type "enumerate",data:=.fields #[.none,.bool false,.ref s.heap.objs.size,rawInt 0,.none,.none] }) rfl
  rw [hz] at this; exact this
 exact ⟨⟨_,he,rfl⟩,h _ he ⟨_,Heap.get?_push_of_some _ (Heap.get?_push_size _ rfl),rfl,rfl⟩ fun b o x=>Heap.get?_push_of_some _ (Heap.get?_push_of_some _ x)⟩
theorem qj {it t:Addr} {i:Nat} {items:Array Value} {Q:Value->Shared->Prop} (hh:A.handled=none) (hit:s.heap.IsTupleIter it t i) (ht:s.heap.IsTuple t items) (hx:items[i]? = none)
  (hE:∀h' e,Heap.ExtBut it s.heap h'->(∃o,h'.get? e=some o/\o.cls = .type "StopIteration")->E (.ref e) { s with heap:=h' }) :
  wpAny (model prog w) A (Builtin.SmallTypes.nextOf (.ref it)) Q E s:=by
 apply bc;intro ng
 obtain ⟨o,ho,hc,hd⟩:=id hit
 obtain ⟨ol,hol,_,nl,hdl⟩:=ht
 apply ng;clear ng
 unfold Builtin.SmallTypes.nextOf
 refine wpAny_bind (wpAny_callSpecial?_slot (name:=Str.ofString "__next__") hit.typeIs F.slot_tuple_iterator_next
  (wpAny_call_entry F.slot_tuple_iterator_next hit.typeIs F.entry_tuple_iterator_next ?_ (F.args_tuple_iterator_next_1 _)))
 show wpAny _ _ (field (.ref it) 0 >>= _) _ _ s
 refine wpAny_bind (wpAny_field ho hd (x:=.ref t) rfl ?_)
 show wpAny _ _ (if (Value.ref t == Value.none)=true then _ else _) _ _ s
 refine aa (if_neg (show ¬((Value.ref t == Value.none)=true) from Bool.false_ne_true)) ?_
 show wpAny _ _ (field (.ref it) 1 >>= _) _ _ s
 refine wpAny_bind (wpAny_field ho hd (x:=.int i 0) rfl ?_)
 show wpAny _ _ (seqItems? (.ref t) >>= _) _ _ s
 refine wpAny_bind (wpAny_seqItems hol hdl ?_)
 simp only [Int.toNat_natCast,hx]
 refine wpAny_bind (wpAny_rule (wpAny_bind (wpAny_setField ho hd (by simp) ?_)))
 show wpAny _ _ (newExc (.type "StopIteration") [] >>= _) _ _ _
 refine wpAny_bind ?_
 simp only [newExc,newTuple]
 refine wpAny_bind (wpAny_newObj_type ?_ (by size_fits))
 refine wpAny_bind (m:=firstArgMember _ _) (wpAny_of_eq (a:=Value.none) (by first | rfl | (simp only [firstArgMember]; rfl)) ?_)
 refine wpAny_newObj_type ?_ (by size_fits)
 simp only [raiseNew]
 refine wpAny_bind (wpAny_handled ?_)
 first | refine aa (show A.in1.handled=none from hh) ?_ | exact aa hh rfl
 refine wpAny_bind (wpAny_pure (wpAny_throw ?_))
 exact hE _ _ (((Heap.SameBut.update ..).extBut.push _).push _) ⟨_,Heap.get?_push_size _ rfl,rfl⟩
theorem wA {A:Around} (hh:A.handled=none) (it l:Addr):Draws prog w A it [it,l] 0 (fun zw zw=>False) (fun i h=>i=0/\h.IsTupleIter it l 0/\h.IsTuple l #[]) where
 live:=fun zw zw st=>let ⟨_,⟨o,ho,_⟩,_⟩:=st; ⟨o,ho⟩
 frame:=fun i h h' st hk=>by
  apply bc;intro ng
  obtain ⟨e,⟨o,ho,z⟩,⟨o2,ho2,z2⟩⟩:=st
  apply ng;clear ng
  exact ⟨e,⟨o,hk it (by simp) _ ho,z⟩,⟨o2,hk l (by simp) _ ho2,z2⟩⟩
 item:=fun i s Q E hi=>absurd hi (Nat.not_lt_zero i)
 done:=fun s Q E st hE=>qj hh st.2.1 st.2.2 rfl hE
end
end
noncomputable def qw (P:Params):Stmt:=(al P 725).getD 1 (.Pass default)
noncomputable def M3 (a b c:Value):List AV:=[.glb (.ref 834),.glb a,.glb b,.glb c]
noncomputable def yX (a b c:Value):List (Str×AV):=[(S' "program",.glb (.ref 834)),(S' "kerns",.glb a),(S' "chars",.glb b),(S' "boundary",.glb c)]
theorem Dc (P:Params):dN P 725=some (aY P 725):=by kernel_rfl
theorem xo (P:Params) (a b c:Value):aP (aY P 725) (M3 a b c)=some (yX a b c):=by kernel_rfl
theorem D8 (P:Params) (a b c:Value):(⟨(yX a b c).reverse.filter (fun x=>decide ((aY P 725).scope.names.lookup x.1=some .local)),(ae (aY P 725).scope.names).zip ((List.range (ae (aY P 725).scope.names).length).map (([]:List AO).length + ·)),[]++(ae (aY P 725).scope.names).map (fun n=>.cell ((yX a b c).reverse.lookup n)),[]⟩:St)=⟨(yX a b c).reverse,[],[],[]⟩:=by kernel_rfl
theorem yJ (P:Params):al P 725=(al P 725).take 1++[.For (.Tuple (Ex (cB (qw P))) (HQ (cB (qw P))) (Hu (cB (qw P)))) (.Call (.Name (bh (ax (aQ (qw P)))) (aR (ax (aQ (qw P))))) [bq (aQ (qw P))] [] (cf (aQ (qw P)))) (bf (qw P)) [] (qw P).pos]:=by kernel_rfl
noncomputable def Mf (P:Params) (a b c:Value):Tr:=cx P aA 12 (bm P 725) ((al P 725).take 1) ⟨(yX a b c).reverse,[],[],[]⟩
theorem K6 (P:Params) (a b c:Value):Mf P a b c = .leaf .nx ⟨(S' "many",.int (.c 0))::(yX a b c).reverse,[],[.fz (.tup [])],[]⟩:=by kernel_rfl
noncomputable def Cv (a b c:Value):St:=⟨(S' "many",.int (.c 0))::(yX a b c).reverse,[],[.fz (.tup [])],[]⟩
theorem H1 (P:Params) (a b c:Value):bA P aA 12 (bm P 725) (.Name (bh (ax (aQ (qw P)))) (aR (ax (aQ (qw P))))) (Cv a b c) = .leaf (.rt (.glb (.type "enumerate"))) (Cv a b c):=by kernel_rfl
theorem Ie (P:Params) (a b c:Value):bA P aA 12 (bm P 725) (bq (aQ (qw P))) (Cv a b c) = .leaf (.rt (.glb (.ref 834))) (Cv a b c):=by kernel_rfl
theorem II (P:Params):aK (bq (aQ (qw P)))=false:=by kernel_rfl
theorem Hp (P:Params):xJ P (.glb (.ref 834))=some []:=by kernel_rfl
section
variable {w:World} {A:Around} {gs:Array GenState} {dr:Drawn} {os:OsState} {h:Heap} {n:Nat}
theorem rK (W:Wd w h) {a b c:Value} (R:Room A 60) {Q:Value->Shared->Prop} {E:Value->Shared->Prop}
  (q:∀h' n',h.StaysIn h'->Q .none ⟨h',gs,dr,n',os⟩):wpAny (model pr w) A (call (.ref 725) [.ref 834,a,b,c]) Q E ⟨h,gs,dr,n,os⟩:=by
 have HH:∀{ρ:Rho},H2 w ρ (OW h) aA 2:=H2.no (be.hb W)
 have C0:Co w (bu []) (OW h) h.get? h [] [] []:=Co.all W (fun zw zw e=>e) .nil
 refine go (R.le (m:=58 + 1) (by (first | decide | lia | omega))) (Dc w.params) (xo w.params a b c) C0 (.cons rfl (.cons rfl (.cons rfl (.cons rfl .nil)))) fun A' env h1 n1 as1 R1 esc p1 S1 E'=>?_
 have S1:SR w (bu []) (OW h) h.get? env h1 ⟨(yX a b c).reverse,[],[],[]⟩ as1:=by rw [<- D8 w.params]; exact S1
 have esc:env.scope=bm w.params 725:=esc
 have RR:Room A' (12 + 2):=R1.le (by (first | decide | lia | omega))
 show wpAny _ _ (execs (al w.params 725) env) _ _ _
 rw [yJ]
 refine aH (cq (post:=fun f s=>f = .nx/\s=Cv a b c) (k:=fun f s=>.leaf f { s with pc:=[] }) (HH.run 12) RR (by rw [esc]; have:=K6 w.params a b c; unfold Mf cx at this; rw [this]; exact ⟨rfl,rfl⟩) S1 fun fl F s2 h2 as2 n2 y2 S2 p2 df=>?_)
 apply bc;intro ng
 obtain ⟨y3,y4⟩:=y2
 apply ng;clear ng
 subst y3
 have df:F = .next:=df
 subst df
 have S2:=S2.pcs (pc:=[]) fun zw m=>(nomatch m)
 rw [y4] at S2
 refine wpAny_execs_cons (wpAny_For (nP (II w.params) (oy HH esc (H1 w.params a b c) RR S2 fun V h3 as3 n3 S3 p3 dv=>⟨dv,oy HH esc (Ie w.params a b c) RR S3 fun V h4 as4 n4 S4 p4 dv=>?_⟩)) fun x=>rfl)
 have dv:V=_:=dv
 subst dv
 apply bc;intro ng
 obtain ⟨x,o,Vs,ex,e2,e3,⟨m,e4⟩,ev⟩:=jQ (Hp w.params)
 apply ng;clear ng
 have ex:AV.glb (.ref 834)=AV.glb (.ref x):=ex
 injection ex with ex; injection ex with ex; subst ex
 have v0:Vs = []:=by cases Vs with | nil=>rfl | cons=>cases ev
 subst v0
 have tp:IsTup h4 834 #[]:=⟨o,S4.k _ _ e2,e3,m,e4⟩
 refine nQ (s:=⟨h4,gs,dr,n4,os⟩) tp fun h5 he hit k5=>?_
 have S5:=S4.stay k5
 have gi:h.get? h4.objs.size=none:=by
  induction qq:h.get? h4.objs.size with
  | none=>rfl
  | some y=>exact absurd (Heap.lt_size (S4.kp _ _ qq)) (Nat.lt_irrefl _)
 have off:jE [h4.objs.size] env.locals (Cv a b c).ob as4:=fun b' m=>by
  refine aa (List.mem_singleton.mp m) ?_
  apply bc;intro ng
  obtain ⟨f,N,_⟩:=S4.lc
  apply ng;clear ng
  exact ⟨Nat.ne_of_gt N.lt,fun i o e ow e'=>absurd ((S4.ob i o _ e e').1.lt ow) (Nat.lt_irrefl _)⟩
 refine wpAny_pyIter_enum (s:=⟨h5,gs,dr,n4,os⟩) he ?_
 refine codeAny_forLoop_any (fun zw st=>st=⟨h5,gs,dr,n4,os⟩) (fun k st I=>?_) 0 rfl
 subst I
 have tp5:Heap.IsTuple h5 834 #[]:=let ⟨o,e,z⟩:=tp; ⟨o,k5 _ _ e,z⟩
 refine wpAny_pyNext_enum_endD (s:=⟨h5,gs,dr,n4,os⟩) (wA (A:=A'.in1) RR.hd h4.objs.size 834) he ⟨rfl,hit,tp5⟩ fun h6 he6=>?_
 have S6:=S5.off (l:=[h4.objs.size]) (fun b' m=>by refine aa (List.mem_singleton.mp m) ?_; exact gi) off (fun b' x m e=>he6 b' x (fun qq=>m (qq▸.head _)) e)
 exact wpAny_execs_nil (wpAny_execs_nil (q h6 n4 S6.kp))
end
noncomputable def Ha (ps:List (Int×AV)):Option (Nat×Nat×Nat):=match ps with
 | []=>none
 | a::r=>a.2.l?.bind fun i=>(eA r).bind fun p=>(aq p.1.2.l? p.2.2.l?).map fun q=>(i,q)
noncomputable def M4:List AO:=[.dc [(97,.loc 1),(98,.loc 2),(99,.loc 3)],.tup (ny [5,7,2,0,0,0]),.tup (ny [11,3,0,0,0,0]),.tup (ny [4,1,9,0,0,0])]
noncomputable def Ak (ob:List AO) (i:Nat):Bool:=(((ob[i]?).bind AO.dc?).bind Ha).any fun j=>(cE (eX [i,j.1,j.2.1,j.2.2]) ob [i,j.1,j.2.1,j.2.2] M4).any fun l=>l.all ww
noncomputable def Dy (v:AV):Bool:=v.c?.any fun n=>decide (n=0)
noncomputable def F5 (v:AV):Bool:=f9 v (.ref 834)
noncomputable def E0:Hk:=fun a args ob=>((aZ args).bind AV.l?).bind fun i=>if a == 718 && Ak ob i then some ([],.none,ob) else none
noncomputable def DR:Hk:=fun a args ob=>(eA args).bind fun p=>p.1.l?.bind fun i=>if a == 711 && Ak ob i && Dy p.2 then some ([],.none,ob) else none
noncomputable def FP:Hk:=fun a args ob=>(args[0]?).bind fun v=>if a == 725 && F5 v && Nat.beq args.length 4 then some ([],.none,ob) else none
noncomputable def EH:Hk:=fun a args ob=>match E0 a args ob with | some r=>some r | none=>(match DR a args ob with | some r=>some r | none=>FP a args ob)
theorem u6 {v:AV} (h:Dy v=true):v = .int (.c 0):=by
 obtain ⟨n,e,h⟩:=cv h
 exact aa (jj e) (aa (of_decide_eq_true h) rfl)
section
variable {w:World} {ρ:Rho} {O:Opq} {G:Gr} {h:Heap} {ob:List AO} {pc:List (CE×Bool)} {as:List Addr}
theorem oC {i:Nat} (e:Ak ob i=true) (S:Co w ρ O G h ob pc as) {d:Addr} (ed:as[i]? = some d):∃t1 t2 t3,Let3 h d t1 t2 t3:=by
 apply bc;intro ng
 obtain ⟨j,e1,e⟩:=cv e
 obtain ⟨l,e2,e3⟩:=cv e
 apply ng;clear ng
 have T:=jl (dF rfl) S.sz (fun i o a e e'=>(S.ob i o a e e').1) e2 (fZ e3) rfl
 have ti:∀{x:Addr} {ns:List Int},aN ρ ([i,j.1,j.2.1,j.2.2].map fun j=>as.getD j 0) h.get? x (.tup (ny ns))->hA h.get? x ns:=by
  intro x ns ⟨Vs,d1,a1⟩
  refine ⟨Vs,?_,a1⟩
  clear a1
  induction ns generalizing Vs with
  | nil=>refine aa d1.n ?_; exact .nil
  | cons m r ih =>
   apply bc;intro ng
   obtain ⟨b,m',hV,⟨t,ht⟩,d1⟩:=d1.c
   apply ng;clear ng
   refine aa hV (aa ht ?_)
   exact .cons _ _ (ih _ d1)
 refine ⟨as.getD j.1 0,as.getD j.2.1 0,as.getD j.2.2 0,?_,ti T.tl.hd,ti T.tl.tl.hd,ti T.tl.tl.tl.hd⟩
 apply bc;intro ng
 obtain ⟨kvs,k,k2⟩:=T.hd
 obtain ⟨b0,r,hk,c0,k⟩:=k.c
 obtain ⟨b1,b2,hr,c1,c2⟩:=k.two
 apply ng;clear ng
 rw [hk,hr,sV c0 rfl,sV c1 rfl,sV c2 rfl] at k2
 exact bE ed▸(show eT h.get? (as.getD i 0) [(97,.ref (as.getD j.1 0)),(98,.ref (as.getD j.2.1 0)),(99,.ref (as.getD j.2.2 0))] from k2)
theorem pe {α:Type} {l:List α} {n:Nat} (h:l.length=n + 1):∃a r,l=a::r/\r.length=n:=by
 induction l using List.casesOn with
 | nil=>cases h
 | cons a r=>exact ⟨a,r,rfl,Nat.succ.inj h⟩
theorem yf:ay w ρ O EH 60:=by
 refine ay.or (k1:=E0) ?_ (ay.or (k1:=DR) (k2:=FP) ?_ ?_)
 ·intro f args ob ces v ob' e hcs A gs dr os G h pc n as Us Q Er R S da q
  apply bc;intro ng
  obtain ⟨i,ei,e⟩:=az e
  obtain ⟨u,eu,ei⟩:=az ei
  obtain ⟨hc,e⟩:=cS e
  cases e
  rw [ba eu,bM ei] at da
  obtain ⟨b,hU,d,ed,hd⟩:=da.one
  obtain ⟨t1,t2,t3,L⟩:=oC (au hc) S ed
  apply ng;clear ng
  refine aa hU (aa hd (aa (aD (ag hc)) ?_))
  exact nG S.wd L R fun h' n' k=>q .none h' as n' (S.stay k) .refl rfl
 ·intro f args ob ces v ob' e hcs A gs dr os G h pc n as Us Q Er R S da q
  apply bc;intro ng
  obtain ⟨p,ep,e⟩:=az e
  obtain ⟨i,ei,e⟩:=az e
  obtain ⟨hc,e⟩:=cS e
  cases e
  rw [ch ep,bM ei] at da
  obtain ⟨b,b',hU,⟨d,ed,hd⟩,d2⟩:=da.two
  obtain ⟨t1,t2,t3,L⟩:=oC (au (ag hc)) S ed
  rw [u6 (au hc)] at d2
  obtain ⟨t,ht⟩:=d2
  apply ng;clear ng
  refine aa hU (aa hd (aa ht (aa (aD (ag (ag hc))) ?_)))
  exact qQ S.wd L R fun h' n' k=>q .none h' as n' (S.stay k) .refl rfl
 ·intro f args ob ces v ob' e hcs A gs dr os G h pc n as Us Q Er R S da q
  apply bc;intro ng
  obtain ⟨u,eu,e⟩:=az e
  obtain ⟨hc,e⟩:=cS e
  cases e
  have l4:=da.len.symm.trans (Nat.eq_of_beq_eq_true (au hc))
  obtain ⟨V,eV,d⟩:=da.get eu
  apply ng;clear ng
  rw [gm (au (ag hc))] at d
  refine aa (aD (ag (ag hc))) ?_
  apply bc;intro ng
  obtain ⟨x,r1,e1,l3⟩:=pe l4
  obtain ⟨a,r2,e2,l2⟩:=pe l3
  obtain ⟨b,r3,e3,l1⟩:=pe l2
  obtain ⟨c,r4,e4,l0⟩:=pe l1
  rw [List.length_eq_zero_iff.mp l0] at e4
  rw [e4] at e3; rw [e3] at e2; rw [e2] at e1
  rw [e1] at eV
  rw [e1,aG eV,show V=_ from d] at ng
  exact ng (rK S.wd R fun h' n' k=>q .none h' as n' (S.stay k) .refl rfl)
end
section
variable {w:World} {ρ:Rho} {O:Opq} {G:Gr} {h h':Heap} {ob:List AO} {pc:List (CE×Bool)} {as:List Addr}
theorem Co.take (S:Co w ρ O G h ob pc as) {a:Addr} {ao:AO} (f:G a=none) (o:∀(i:Nat) o,ob[i]? = some o->o.own=true->as[i]?≠some a) (y:aC ρ O (as++[a]) h a ao):Co w ρ O G h (ob++[ao]) pc (as++[a]):=by
 refine ⟨S.bs,S.kp,S.og,by simp [S.sz],fun i x b e e'=>?_,fun i j x x' b e1 e2 w1 w2 e3 e4=>?_,S.pc⟩
 ·rcases bR S.sz i x b e e' with ⟨f1,f2⟩ | ⟨f1,rfl,rfl⟩
  ·obtain ⟨z1,z2⟩:=S.ob i x b f1 f2
   exact ⟨z1.keep ⟨_,rfl⟩ (fun zw x e=>e),z2⟩
  ·exact ⟨y,fun zw=>f⟩
 ·rcases bR S.sz i x b e1 e3 with ⟨f1,f2⟩ | ⟨f1,rfl,rfl⟩
  ·rcases bR S.sz j x' b e2 e4 with ⟨g1,g2⟩ | ⟨g1,rfl,rfl⟩
   ·exact S.nd i j x x' b f1 g1 w1 w2 f2 g2
   ·exact absurd f2 (o i x f1 w1)
  ·rcases bR S.sz j x' _ e2 e4 with ⟨g1,g2⟩ | ⟨g1,rfl,-⟩
   ·exact absurd g2 (o j x' g1 w2)
   ·(first | lia | omega)
theorem Co.chg (S:Co w ρ O G h ob pc as) {i:Nat} {o o' ao:AO} {y z:Addr} (eo:ob[i]? = some o) (ow:o.own=true) (ow':o'.own=true) (ea:as[i]? = some y) (k:∀b x,b≠y->h.get? b=some x->h'.get? b=some x) (ho:aC ρ O as h' y o') (hz:h.get? z=none) (hn:aC ρ O (as++[z]) h' z ao):Co w ρ O G h' (ob.set i o'++[ao]) pc (as++[z]):=by
 have S2:=S.set1 eo ow ea k ho
 have gz:G z=none:=by
  induction q:G z with
  | none=>rfl
  | some x=>have:=S.kp _ _ q; rw [hz] at this; exact ap this
 refine S2.take gz (fun j oj e1 e2 e3=>?_) hn
 have hi:i < ob.length:=(List.getElem?_eq_some_iff.mp eo).1
 by_cases hij:i=j
 ·subst hij
  rw [ea] at e3; cases e3
  obtain ⟨x,ex⟩:=((S.ob i o y eo ea).1).ex ow
  rw [hz] at ex; exact ap ex
 ·rw [List.getElem?_set_ne hij] at e1
  obtain ⟨x,ex⟩:=((S.ob j oj z e1 e3).1).ex e2
  rw [hz] at ex; exact ap ex
theorem Co.bsOn2 (S:Co w ρ O G h ob pc as) {y:Addr} (g:G y=none):gV w (G1 h y):=by
 obtain ⟨hb,W,kb⟩:=S.bs
 refine ⟨hb,W,fun a o e=>?_⟩
 have:=kb a o e
 unfold G1
 refine aa (if_neg (fun q=>by rw [q,g] at this; cases this)) ?_
 exact S.kp _ _ this
end
noncomputable def OS (l:Addr) (g:Gr):Opq:=⟨g,fun k a=>k=7/\a=l,fun a h=>by omega,fun a h=>by omega⟩
noncomputable def CZ:Option AO->Bool | some (.opq k)=>k == 7 | _=>false
noncomputable def MI:Hk:=fun a args ob=>((aZ args).bind AV.l?).bind fun i=>if a == 850 && CZ ob[i]? then some ([],.loc ob.length,ob++[.lst [.int (.v 0),.int (.c 0)]]) else none
noncomputable def Kt (x y:Nat) (args:List AV) (ob:List AO):Option (Nat×Nat):=(eA args).bind fun p=>(aq p.1.l? p.2.l?).bind fun i=>(lX ob i.1).bind fun q=>((ob[i.2]?).bind AO.rf?).bind fun k=>if (q.1.same (.v x) && q.2.same (.v y)) && k == 1 then some i else none
noncomputable def MJ (x y u v:Nat):Hk:=fun a args ob=>(Kt x y args ob).bind fun i=>if a == 878 then some ([.le (.c 0) (.v y),.le (.v y) (.c 990000)],.loc ob.length,ob.set i.1 (.lst [.int (.v u),.int (.v v)])++[.rf 2]) else none
noncomputable def Mk (x y b e:Nat):Hk:=fun a args ob=>(Kt x y args ob).bind fun i=>if a == 892 then some ([.le (.c 0) (.v y),.le (.v y) (.c 990000)],.loc ob.length,ob.set i.1 (.lst [.any,.any])++[.tup [.int (.v b),.int (.v e)]]) else none
noncomputable def HS:Hk:=fun a args ob=>((aZ args).bind AV.l?).bind fun j=>((ob[j]?).bind AO.rf?).bind fun k=>if a == 899 && k == 1 then some ([],.loc ob.length,ob++[.rf 5]) else none
section
variable {w:World} {ρ:Rho} {O:Opq} {g:Gr} {F:List Addr} {nds:List Nd}
theorem KK {G:Gr} {h:Heap} {ob:List AO} {pc:List (CE×Bool)} {as:List Addr} (S:Co w ρ O G h ob pc as) {z:Addr} (hz:h.get? z=none):G z=none:=by
 induction q:G z with
 | none=>rfl
 | some x=>exact ap (hz.symm.trans (S.kp _ _ q))
theorem Co.takeN {G:Gr} {h h':Heap} {ob:List AO} {pc:List (CE×Bool)} {as:List Addr} (S:Co w ρ O G h ob pc as) (k:h.StaysIn h') {z:Addr} {ao:AO} (hz:h.get? z=none) (y:aC ρ O (as++[z]) h' z ao):Co w ρ O G h' (ob++[ao]) pc (as++[z]) :=
 (S.stay k).take (KK S hz) (fun i o e1 e2 e3=>let ⟨_,ex⟩:=((S.ob i o z e1 e3).1).ex e2; ap (hz.symm.trans ex)) y
theorem Ck {l:Addr} {Vs:List Value} {ns:List Int} (L:At g l (.lst Vs)) (I:IntsAre Vs ns) (hz:Vs.length<=1000) (hv:ρ.v 0=fy ns):ay w ρ (OS l g) MI 14:=by
 intro f args ob ces v ob' e hcs A gs dr os G h pc n as Us Q Er R S da q
 apply bc;intro ng
 obtain ⟨i,ei,e⟩:=az e
 obtain ⟨u,eu,ei⟩:=az ei
 obtain ⟨hc,e⟩:=cS e
 cases e
 rw [ba eu,bM ei] at da
 obtain ⟨b,hU,x,ex,hx⟩:=da.one
 have hl:x=l:=by
  have hc:=au hc
  induction eo:ob[i]? with
  | none=>rw [eo] at hc; exact bG hc
  | some o =>
   rw [eo] at hc
   induction o using AO.casesOn with
   | opq k=>exact ((S.ob i _ x eo ex).1.2).2
   | _=>exact bG hc
 rw [hU,hx,hl,aD (ag hc)] at ng
 exact ng (rN S.wd (L.le fun o e=>S.kp _ _ (S.og _ _ e)) I hz R fun h' n' z Ws k hzn ha hi=>q _ h' _ n' (S.takeN k hzn ⟨Ws,dY hi hv rfl,ha⟩) ⟨_,rfl⟩ ⟨z,by refine aa (Eq.symm S.sz) ?_; exact aX,rfl⟩)
theorem sF {x y:Nat} {args:List AV} {ob:List AO} {i:Nat×Nat} (e:Kt x y args ob=some i) {G:Gr} {h:Heap} {pc:List (CE×Bool)} {as:List Addr} (S:Co w ρ O G h ob pc as) {Us:List Value} (da:All2 (Dn ρ as) args Us) :
  ∃a b Vs,Us = [.ref a,.ref b]/\as[i.1]? = some a/\ob[i.1]? = some (.lst [.int (.v x),.int (.v y)])/\At h.get? a (.lst Vs)/\IntsAre Vs [ρ.v x,ρ.v y]/\G a=none/\At h.get? b (.pl ((ρ.l 1).map ak))/\b≠a:=by
 apply bc;intro ng
 obtain ⟨p,ep,e⟩:=az e
 obtain ⟨j,ej,e⟩:=az e
 obtain ⟨q,e1,e⟩:=az e
 obtain ⟨k,e2,e⟩:=az e
 obtain ⟨hc,e⟩:=cS e
 rw [aG e] at ej e1 e2
 rw [show q=(.v x,.v y) from Prod.ext (IE.same_ok (ag (ag hc))) (IE.same_ok (au (ag hc)))] at e1
 rw [aD (au hc)] at e2
 rw [ch ep,bM (ah ej).1,bM (ah ej).2] at da
 obtain ⟨V,U,hU,⟨a,ea,hV⟩,b,eb,hW⟩:=da.two
 obtain ⟨eo,Vs,v1,v2,ga⟩:=mD e1 S ea
 obtain ⟨o,f1,f2⟩:=az e2
 rw [kL f2] at f1
 rw [hV,hW] at hU
 exact ng ⟨a,b,Vs,hU,ea,eo,v1,v2,ga,(S.ob i.2 _ b f1 eb).1,fun z=>by
  have w:=S.nd i.1 i.2 _ _ a eo f1 rfl rfl ea (z▸eb)
  rw [w,f1] at eo
  exact AO.noConfusion (aG eo)⟩
theorem BC {x y u v:Nat} (hl:(ρ.l 1).length<=100) (h2:ρ.l 2=(fR (ρ.l 1).length (ρ.v x) (ρ.v y) (ρ.l 1) []).1) (hu:ρ.v u=(fR (ρ.l 1).length (ρ.v x) (ρ.v y) (ρ.l 1) []).2.1) (hv:ρ.v v=(fR (ρ.l 1).length (ρ.v x) (ρ.v y) (ρ.l 1) []).2.2):ay w ρ O (MJ x y u v) 60:=by
 intro f args ob ces va ob' e hcs A gs dr os G h pc n as Us Q Er R S da q
 apply bc;intro ng
 obtain ⟨i,e1,e⟩:=az e
 obtain ⟨hc,e⟩:=cS e
 cases e
 obtain ⟨a,b,Vs,hU,ea,eo,v1,v2,ga,I,hab⟩:=sF e1 S da
 rw [hU,aD hc] at ng
 exact ng (yd (Z:=ρ.l 1) (S.bsOn2 ga) v1 v2 I hab hl ⟨hcs _ (.head _),hcs _ (.tail _ (.head _))⟩ R fun h' n' z Ws kk w1 w2 hz w3 =>
  q _ h' _ n' (S.chg eo rfl rfl ea kk ⟨Ws,dY w2 hu hv,w1⟩ hz (show At h'.get? z (.pl ((ρ.l 2).map ak)) by refine aa h2 ?_; exact w3)) ⟨_,rfl⟩ ⟨z,by refine aa (Eq.symm S.sz) ?_; exact aX,rfl⟩)
theorem BE {x y b e:Nat} (hl:0 < (ρ.l 1).length/\(ρ.l 1).length<=100) (hF:F.length=3) (It:All2 (fun V nd=>∃x,V = .ref x/\bP O.g F x nd/\nd.ok) ((ρ.l 1).map ak) nds) (hb:ρ.v b=bt (ρ.v x) (ρ.v y) (ρ.l 1).length) (he:ρ.v e=(fB (nds.map fun nd=>nd.k.run) 4 (bt (ρ.v x) (ρ.v y) (ρ.l 1).length).toNat:Nat)):ay w ρ O (Mk x y b e) 60:=by
 intro f args ob ces va ob' ee hcs A gs dr os G h pc n as Us Q Er R S da q
 apply bc;intro ng
 obtain ⟨i,e1,ee⟩:=az ee
 obtain ⟨hc,ee⟩:=cS ee
 cases ee
 obtain ⟨a,b',Vs,hU,ea,eo,v1,v2,ga,I,hab⟩:=sF e1 S da
 rw [hU,aD hc] at ng
 have kg:be O.g (G1 h a):=fun c o e=>(gS fun z=>ap (ga.symm.trans (z▸S.og _ _ e))).trans (S.kp _ _ (S.og _ _ e))
 exact ng (yC (Z:=ρ.l 1) (S.bsOn2 ga) v1 v2 I hab hl ⟨hcs _ (.head _),hcs _ (.tail _ (.head _))⟩ hF kg It R fun h' n' z Ws Ys kk w1 w2 hz w3 w4 =>
  q _ h' _ n' (S.chg eo rfl rfl ea kk ⟨Ws,(let ⟨_,_,e⟩:=jz w2; e▸.cons trivial (.cons trivial .nil)),w1⟩ hz ⟨Ys,dY w4 hb he,w3⟩) ⟨_,rfl⟩ ⟨z,by refine aa (Eq.symm S.sz) ?_; exact aX,rfl⟩)
theorem Ad {ps:List (Nd×List Int)} (hF:F.length=3) (It:All2 (CG O.g F) ((ρ.l 1).map ak) ps) (hl:(ps.flatMap (·.2)).length<=900) (h5:ρ.l 5=ps.flatMap (·.2)):ay w ρ O HS 60:=by
 intro f args ob ces va ob' ee hcs A gs dr os G h pc n as Us Q Er R S da q
 apply bc;intro ng
 obtain ⟨j,ej,ee⟩:=az ee
 obtain ⟨u,eu,ej⟩:=az ej
 obtain ⟨k,e2,ee⟩:=az ee
 obtain ⟨hc,ee⟩:=cS ee
 cases ee
 rw [ba eu,bM ej] at da
 obtain ⟨b,hU,b',eb,hx⟩:=da.one
 obtain ⟨o,f1,f2⟩:=az e2
 rw [kL f2,aD (au hc)] at f1
 rw [hU,hx,aD (ag hc)] at ng
 exact ng (uz (Z:=ρ.l 1) S.wd (S.ob j _ b' f1 eb).1 hF (fun c o e=>S.kp _ _ (S.og _ _ e)) It hl R fun h' n' z k hz w3 =>
  q _ h' _ n' (S.takeN k hz (show At h'.get? z (.pl ((ρ.l 5).map ak)) by refine aa h5 ?_; exact w3)) ⟨_,rfl⟩ ⟨z,by refine aa (Eq.symm S.sz) ?_; exact aX,rfl⟩)
end
noncomputable def dU (P:Params):List Stmt:=al P 904
noncomputable def eY (P:Params):Scope:=bm P 904
noncomputable def gW:List (Str×Nat):=[(S' "heap",1),(S' "font",2),(S' "orders",3),(S' "spots_told",4),(S' "begin",5)]
noncomputable def JG:St:=⟨[(S' "script",.loc 0)],gW,[.opq 7,.cell none,.cell none,.cell none,.cell none,.cell none],[]⟩
noncomputable def L5:Hk:=fun a args ob=>match MI a args ob with | some r=>some r | none=>EH a args ob
noncomputable def uC (n:Nat):List AO:=[.ns [(S' "skew_char",.any),(S' "hyphen_char",.any),(S' "edge_start",.any),(S' "boundary",.any),(S' "kerns",.any),(S' "program",.any),(S' "chars",.loc (n + 2)),(S' "params",.any),(S' "check",.any),(S' "design",.any),(S' "size",.any),(S' "name",.any),(S' "number",.int (.c 1))],.inst 822 n,
 .dc [(97,.loc (n + 3)),(98,.loc (n + 4)),(99,.loc (n + 5))],.tup (ny [5,7,2,0,0,0]),.tup (ny [11,3,0,0,0,0]),.tup (ny [4,1,9,0,0,0])]
noncomputable def Nw (a b:AV):List AO:=[.dead,.cell (some (.loc 6)),.cell (some (.loc 8)),.cell none,.cell none,.cell none,.lst [a,b]]
noncomputable def CS:St:=⟨[],gW,Nw (.int (.v 0)) (.int (.c 0))++uC 7,[]⟩
noncomputable def J4 (P:Params):VC:=(cx P L5 40 (eY P) ((dU P).take 2) JG).vc [0,1,2,3,4,5,6,22,23,32,15,18,21] .nx CS
noncomputable def KW (a b:AV):List AO:=[.dead,.cell (some (.loc 6)),.cell (some (.loc 8)),.cell (some (.int (.v 4))),.cell none,.cell none,.lst [a,b]]
noncomputable def nR:St:=⟨[(S' "mode",.int (.v 3))],gW,KW (.int (.v 1)) (.int (.v 2))++uC 7,[]⟩
noncomputable def KF (P:Params):VC:=(cx P fF 20 (eY P) (((dU P).drop 2).take 1) CS).vc [0,1,2,3,4,5,6,7,8,9,10,11,12] .nx nR
noncomputable def Jg:VC:=VC.ok [Ob1.ie (IE.v 0) (IE.v 0),Ob1.ie (IE.c 0) (IE.c 0),Ob1.ie (IE.c 1) (IE.c 1),Ob1.ie (IE.c 5) (IE.c 5),Ob1.ie (IE.c 7) (IE.c 7),Ob1.ie (IE.c 2) (IE.c 2),Ob1.ie (IE.c 0) (IE.c 0),Ob1.ie (IE.c 0) (IE.c 0),Ob1.ie (IE.c 0) (IE.c 0),Ob1.ie (IE.c 11) (IE.c 11),Ob1.ie (IE.c 3) (IE.c 3),Ob1.ie (IE.c 0) (IE.c 0),Ob1.ie (IE.c 0) (IE.c 0),Ob1.ie (IE.c 0) (IE.c 0),Ob1.ie (IE.c 0) (IE.c 0),Ob1.ie (IE.c 4) (IE.c 4),Ob1.ie (IE.c 1) (IE.c 1),Ob1.ie (IE.c 9) (IE.c 9),Ob1.ie (IE.c 0) (IE.c 0),Ob1.ie (IE.c 0) (IE.c 0),Ob1.ie (IE.c 0) (IE.c 0)]
theorem EE (P:Params):J4 P=Jg:=by kernel_rfl
noncomputable def KJ:VC:=VC.req (CE.le (IE.c 0) (IE.add (IE.c 0) (IE.c 1))) (VC.req (CE.lt (IE.add (IE.c 0) (IE.c 1)) (IE.c 1000000)) (VC.br (CE.eq (IE.fn 30 (IE.fn 31 (IE.v 0) (IE.c 0) (IE.c 2)) (IE.add (IE.c 0) (IE.c 1)) (IE.c 2)) (IE.c 1)) (VC.ok [Ob1.ie (IE.c 4) (IE.v 4),Ob1.ie (IE.fn 31 (IE.fn 31 (IE.v 0) (IE.c 0) (IE.c 2)) (IE.add (IE.c 0) (IE.c 1)) (IE.c 2)) (IE.v 1),Ob1.ie (IE.add (IE.add (IE.c 0) (IE.c 1)) (IE.c 1)) (IE.v 2),Ob1.ie (IE.c 1) (IE.c 1),Ob1.ie (IE.c 5) (IE.c 5),Ob1.ie (IE.c 7) (IE.c 7),Ob1.ie (IE.c 2) (IE.c 2),Ob1.ie (IE.c 0) (IE.c 0),Ob1.ie (IE.c 0) (IE.c 0),Ob1.ie (IE.c 0) (IE.c 0),Ob1.ie (IE.c 11) (IE.c 11),Ob1.ie (IE.c 3) (IE.c 3),Ob1.ie (IE.c 0) (IE.c 0),Ob1.ie (IE.c 0) (IE.c 0),Ob1.ie (IE.c 0) (IE.c 0),Ob1.ie (IE.c 0) (IE.c 0),Ob1.ie (IE.c 4) (IE.c 4),Ob1.ie (IE.c 1) (IE.c 1),Ob1.ie (IE.c 9) (IE.c 9),Ob1.ie (IE.c 0) (IE.c 0),Ob1.ie (IE.c 0) (IE.c 0),Ob1.ie (IE.c 0) (IE.c 0),Ob1.ie (IE.fn 30 (IE.v 0) (IE.c 0) (IE.c 2)) (IE.v 3)]) (VC.br (CE.eq (IE.fn 30 (IE.fn 31 (IE.v 0) (IE.c 0) (IE.c 2)) (IE.add (IE.c 0) (IE.c 1)) (IE.c 2)) (IE.c 0)) (VC.ok [Ob1.ie (IE.c 1) (IE.v 4),Ob1.ie (IE.fn 31 (IE.fn 31 (IE.v 0) (IE.c 0) (IE.c 2)) (IE.add (IE.c 0) (IE.c 1)) (IE.c 2)) (IE.v 1),Ob1.ie (IE.add (IE.add (IE.c 0) (IE.c 1)) (IE.c 1)) (IE.v 2),Ob1.ie (IE.c 1) (IE.c 1),Ob1.ie (IE.c 5) (IE.c 5),Ob1.ie (IE.c 7) (IE.c 7),Ob1.ie (IE.c 2) (IE.c 2),Ob1.ie (IE.c 0) (IE.c 0),Ob1.ie (IE.c 0) (IE.c 0),Ob1.ie (IE.c 0) (IE.c 0),Ob1.ie (IE.c 11) (IE.c 11),Ob1.ie (IE.c 3) (IE.c 3),Ob1.ie (IE.c 0) (IE.c 0),Ob1.ie (IE.c 0) (IE.c 0),Ob1.ie (IE.c 0) (IE.c 0),Ob1.ie (IE.c 0) (IE.c 0),Ob1.ie (IE.c 4) (IE.c 4),Ob1.ie (IE.c 1) (IE.c 1),Ob1.ie (IE.c 9) (IE.c 9),Ob1.ie (IE.c 0) (IE.c 0),Ob1.ie (IE.c 0) (IE.c 0),Ob1.ie (IE.c 0) (IE.c 0),Ob1.ie (IE.fn 30 (IE.v 0) (IE.c 0) (IE.c 2)) (IE.v 3)]) VC.fail)))
theorem DA (P:Params):KF P=KJ:=by kernel_rfl
theorem Ab (P:Params):dN P 904=some (aY P 904):=by kernel_rfl
theorem tS (P:Params):aP (aY P 904) [.loc 0]=some [(S' "script",.loc 0)]:=by kernel_rfl
theorem A2 (P:Params):(⟨[(S' "script",AV.loc 0)].reverse.filter (fun x=>decide ((aY P 904).scope.names.lookup x.1=some .local)),(ae (aY P 904).scope.names).zip ((List.range (ae (aY P 904).scope.names).length).map (([.opq 7]:List AO).length + ·)),[.opq 7]++(ae (aY P 904).scope.names).map (fun n=>.cell ([(S' "script",AV.loc 0)].reverse.lookup n)),[]⟩:St)=JG:=by kernel_rfl
theorem se (P:Params):al P 904=(dU P).take 2++(((dU P).drop 2).take 1++(dU P).drop 3):=by kernel_rfl
noncomputable def kG (ns:List Int):Int:=bt (fy ns) 0 2
noncomputable def CH (ns:List Int):Int:=if bt (bY (fy ns) 0 2) 1 2=1 then 4 else 1
noncomputable def jg (ns:List Int):Int:=bY (bY (fy ns) 0 2) 1 2
noncomputable def fu (ns:List Int):Rho:=cV [fy ns,jg ns,2,kG ns,CH ns] fun zw=>[]
theorem kj (ns:List Int):kG ns=0\/kG ns=1:=by
 have:=bC (a:=fy ns) (c:=0) (m:=2) (by (first | decide | lia | omega))
 unfold kG; (first | decide | lia | omega)
theorem BJ (ns:List Int):1<=CH ns/\CH ns<=4:=by unfold CH; split <;> (first | decide | lia | omega)
section
variable {w:World} {A:Around} {gs:Array GenState} {dr:Drawn} {os:OsState} {h:Heap} {n:Nat}
theorem BL {x:Int} {P:Prop} (h:0<=x/\x < 2) (h0:¬x=0) (h1:¬x=1):P:=by exfalso; (first | lia | omega)
theorem F9 {l:Addr} {Vs:List Value} {ns:List Int} (W:Wd w h) (L:At h.get? l (.lst Vs)) (I:IntsAre Vs ns) (hz:Vs.length<=1000) (R:Room A 201) {Q:Value->Shared->Prop} {E:Value->Shared->Prop}
  (q:∀A' env h' n' as',Room A' 200->env.scope=eY w.params->SR w (fu ns) (OS l h.get?) h.get? env h' nR as'->∀E',wpAny (model pr w) A' (execs ((dU w.params).drop 3) env) (fun fl s'=>Q (match fl with | .ret v=>v | _=>.none) s') E' ⟨h',gs,dr,n',os⟩) :
  wpAny (model pr w) A (call (.ref 904) [.ref l]) Q E ⟨h,gs,dr,n,os⟩:=by
 have HB0:HB w (OS l h.get?):=⟨h,W,fun zw zw e=>e⟩
 have HH1:H2 w (fu ns) (OS l h.get?) L5 60:=⟨HB0,by (first | decide | lia | omega),ay.or (ay.le (d:=14) (Ck (ρ:=fu ns) L I hz rfl) (by (first | decide | lia | omega))) yf⟩
 have HH2:H2 w (fu ns) (OS l h.get?) fF 40:=⟨HB0,by (first | decide | lia | omega),eD rfl rfl⟩
 have C0:Co w (fu ns) (OS l h.get?) h.get? h [.opq 7] [] [l]:=Co.all W (fun zw zw e=>e) (.cons ⟨⟨let ⟨o,e,_⟩:=L; ⟨o,e⟩,rfl,rfl⟩,rfl⟩ .nil)
 refine go (R.le (m:=200 + 1) (by (first | decide | lia | omega))) (Ab w.params) (tS w.params) C0 (.cons ⟨l,rfl,rfl⟩ .nil) fun A' env h1 n1 as1 R1 esc p1 S1 E'=>?_
 have S1:SR w (fu ns) (OS l h.get?) h.get? env h1 JG as1:=by refine aa (Eq.symm (A2 w.params)) ?_; exact S1
 have esc:env.scope=eY w.params:=esc
 show wpAny _ _ (execs (al w.params 904) env) _ _ _
 rw [se]
 refine aH (iT (ρ':=fu ns) HH1 esc (EE w.params) (R1.le (by (first | decide | lia | omega))) S1 ?_ fun h2 as2 n2 S2 p2=>?_)
 ·exact fZ (ρ:=fu ns) (by kernel_rfl)
 refine aH (iT (ρ':=fu ns) HH2 esc (DA w.params) (R1.le (by (first | decide | lia | omega))) S2 ?_ fun h3 as3 n3 S3 p3=>?_)
 ·have b:=bC (a:=bY (fy ns) 0 2) (c:=1) (m:=2) (by (first | decide | lia | omega))
  exact ⟨by show (0:Int)<=0 + 1; decide,by show (0:Int) + 1 < 1000000; decide,fun hE=>⟨(if_pos hE).symm,rfl,rfl,rfl,rfl,rfl,rfl,rfl,rfl,rfl,rfl,rfl,rfl,rfl,rfl,rfl,rfl,rfl,rfl,rfl,rfl,rfl,rfl⟩,
   fun hE=>⟨fun h0=>⟨(if_neg hE).symm,rfl,rfl,rfl,rfl,rfl,rfl,rfl,rfl,rfl,rfl,rfl,rfl,rfl,rfl,rfl,rfl,rfl,rfl,rfl,rfl,rfl,rfl⟩,fun h0=>BL b h0 hE⟩⟩
 exact q A' env h3 n3 _ R1 esc S3 E'
end
noncomputable def NE (a c:IE):List AO:=[.dead,.cell (some (.loc 6)),.cell (some (.loc 8)),.cell (some (.int (.v 4))),.cell none,.cell none,.lst [.int a,.int c]]++(uC 7).map AO.fzd
noncomputable def kS:List AO:=NE (.v 1) (.v 2)
noncomputable def AI:St:=⟨[(S' "mode",.int (.v 3))],gW,kS,[]⟩
theorem Ag:gX [1,2,3,4,5,6] 0 nR.ob=kS:=by kernel_rfl
noncomputable def CD:Stmt->Expr | .Assign (e::_) _ _=>e | _=>.Constant .none 0 default
noncomputable def wW (P:Params):Stmt:=(dU P).getD 3 (.Pass default)
noncomputable def mv (P:Params):Expr:=cg (wW P)
noncomputable def dj (P:Params):Expr:=q9 (mv P)
noncomputable def rb (P:Params):Expr:=CN (mv P)
noncomputable def Cm:List (Str×Nat):=[(S' "orders",3),(S' "heap",1),(S' "font",2)]
theorem wl (P:Params):(dU P).drop 3 = .Assign [.Name (S' "items") (aR (CD (wW P)))] (.ListComp (.Call (.Name (bh (ax (dj P))) (aR (ax (dj P)))) [(aJ (dj P)).getD 0 (dj P),(aJ (dj P)).getD 1 (dj P),(aJ (dj P)).getD 2 (dj P)] [] (cf (dj P))) [⟨.Name (S' "lap") (aR (CO (mv P))),.Call (.Name (bh (ax (rb P))) (aR (ax (rb P)))) [bq (rb P)] [] (cf (rb P)),[],0⟩] (kI (mv P)) (vq (mv P))) (rd (wW P))::(dU P).drop 4:=by kernel_rfl
theorem LL (P:Params):bh (ax (rb P))=S' "range"/\(eY P).names.lookup (S' "range")=some .globalImplicit/\nsIn (K P) mainGlobals (S' "range")=some none:=⟨by kernel_rfl,by kernel_rfl,by kernel_rfl⟩
theorem uj:bootBuiltins (Str.ofString "range")=some (.type "range"):=by boot_fast
theorem su {w:World} {ρ:Rho} {O:Opq} {G:Gr} {A:Around} {env:Env} {h:Heap} {s:St} {as:List Addr} {gs:Array GenState} {dr:Drawn} {n:Nat} {os:OsState} {E:Value->Shared->Prop} {x:Str} {v:Value} {pos:Pos} {Q:Value->Shared->Prop} (S:SR w ρ O G env h s as) (h0:(x == S' "__debug__")=false) (h1:x≠S' "__name__") (hl:env.scope.names.lookup x=some .globalImplicit)
  (e:nsIn (K w.params) mainGlobals x=some none) (bb:bootBuiltins x=some v) (q:Q v ⟨h,gs,dr,n,os⟩):wpAny (model pr w) A (eval (.Name x pos) env) Q E ⟨h,gs,dr,n,os⟩:=by
 apply bc;intro ng
 obtain ⟨hb,W,kb⟩:=S.bs
 have kk:∀a o,hb.get? a=some o->h.get? a=some o:=fun a o e=>S.kp _ _ (kb _ _ e)
 obtain ⟨p,l,me,mg,mb,T⟩:=W.t
 apply ng;clear ng
 have T:=topRead_of T
 have hg:h.Ns env.globals mg:=by refine aa S.eg ?_; exact T.g.keeps kk
 have hbb:h.Ns env.builtins mb:=by refine aa S.eb ?_; exact T.b.keeps kk
 exact Calls.Name_function_global S.ek hl (Calls.loadGlobal_builtin (s:=⟨h,gs,dr,n,os⟩) hg (mg_none_of W.k T.g e) hbb ((T.builtins x h1).trans bb) q) h0
noncomputable def MQ (P:Params):VC:=(bA P fF 20 (eY P) (bq (rb P)) AI).vc [0,1,2,3,4,5,6,7,8,9,10,11,12] (.rt (.int (.v 5))) AI
theorem IU (P:Params):c9 (kI (mv P)) (S' "lap")=true/\cp (.Call (.Name (bh (ax (rb P))) (aR (ax (rb P)))) [bq (rb P)] [] (cf (rb P)))=false/\eJ gW (kI (mv P)).names []=some Cm:=⟨by kernel_rfl,by kernel_rfl,by kernel_rfl⟩
noncomputable def eZ (ls:List (Str×AV)):St:=⟨ls,Cm,kS,[]⟩
noncomputable def vj (P:Params):Scope:=bL (kI (mv P)) (eY P)
theorem Iz (P:Params) (ls:List (Str×AV)):bA P aA 12 (vj P) (.Name (bh (ax (dj P))) (aR (ax (dj P)))) (eZ ls) = .leaf (.rt (.glb (.ref 871))) (eZ ls):=by kernel_rfl
theorem Gd (P:Params) (ls:List (Str×AV)):bZ (vj P) (S' "lap") .any (eZ ls) (fun s=>.leaf .nx s) = .leaf .nx (eZ ((S' "lap",.any)::ls)):=by kernel_rfl
noncomputable def k3 (vs:List AV) (s:St):Tr:=match vs with | [v1,v2,v3]=>.leaf (.rt v1) { s with ls:=(S' "",v2)::(S' "",v3)::s.ls } | _=>.fail
theorem Hi (P:Params) (ls:List (Str×AV)) (k:List AV->St->Tr):mP (fS P aA 12) (vj P) [(aJ (dj P)).getD 0 (dj P),(aJ (dj P)).getD 1 (dj P),(aJ (dj P)).getD 2 (dj P)] (eZ ls) k=k [.loc 6,.loc 8,.int (.v 4)] (eZ ls):=by kernel_rfl
theorem Lm (P:Params):keepIn (K P) (.ref 871)=true:=by kernel_rfl
theorem nV (P:Params):([(aJ (dj P)).getD 0 (dj P),(aJ (dj P)).getD 1 (dj P),(aJ (dj P)).getD 2 (dj P)].all fun e=>!aK e)=true/\aK (bq (rb P))=false:=⟨by kernel_rfl,by kernel_rfl⟩
noncomputable def Eo (P:Params):Bool:=(if (eY P).kind.isAnnotationScope then ScopeKind.function else (eY P).kind) == .function && (eY P).names.lookup (S' "items") == some .local && (aR (CD (wW P))).line == (vq (mv P)).line
   && !((kI (mv P)).names.any fun (n,k)=>n == S' "items" && (k == .local || k == .cell))
theorem FO (P:Params):Eo P=true:=by kernel_rfl
noncomputable def jc:St:=⟨[(S' "items",.loc 13),(S' "mode",.int (.v 3))],gW,kS++[.rf 1],[]⟩
theorem AW (P:Params):bZ (eY P) (S' "items") (.loc 13) ⟨[(S' "mode",.int (.v 3))],gW,kS++[.rf 1],[]⟩ (fun s=>.leaf .nx s) = .leaf .nx jc:=by kernel_rfl
noncomputable def Ar:AO:=.ns [(S' "skew_char",.any),(S' "hyphen_char",.any),(S' "edge_start",.any),(S' "boundary",.any),(S' "kerns",.any),(S' "program",.any),(S' "chars",.loc 9),(S' "params",.any),(S' "check",.any),(S' "design",.any),(S' "size",.any),(S' "name",.any),(S' "number",.int (.c 1))]
noncomputable def Gw (i:Nat):Option Nat:=if i=7 then some 0 else if i=8 then some 1 else if i=9 then some 2 else none
theorem xi:fG Gw Ar tY=some [.ie (.c 1) (.c 1)]:=by kernel_rfl
theorem wi:fG Gw (.inst 822 7) (.inst 822 0)=some []:=by kernel_rfl
section
variable {w:World} {ρ:Rho} {A:Around} {gs:Array GenState} {dr:Drawn} {os:OsState} {g G:Gr} {env:Env} {h:Heap} {n:Nat} {as:List Addr}
set_option tactic.hygienic true
theorem sU {as:List Addr} {g:Gr} {x:Addr}:∀{ns:List Int},aN ρ as g x (.tup (ny ns))->hA g x ns:=by
 intro ns ⟨Vs,d1,a1⟩
 refine ⟨Vs,?_,a1⟩
 clear a1
 induction ns generalizing Vs with
 | nil=>cases d1; exact .nil
 | cons m r ih =>
  cases d1; rename_i c0 d1
  obtain ⟨t,rfl⟩:=c0
  exact .cons _ _ (ih _ d1)
theorem vk {ls:List (Str×AV)} {cl:List (Str×Nat)} {pc:List (CE×Bool)} (S:SR w ρ (OG w g) G env h ⟨ls,cl,kS,pc⟩ as):∃f0 f1 f2,as[7]? = some f0/\as[8]? = some f1/\as[9]? = some f2/\aT w g [f0,f1,f2]:=by
 apply bc;intro ng
 obtain ⟨a7,e7,x7,-⟩:=S.get (i:=7) (o:=.fz Ar) rfl
 obtain ⟨a8,e8,x8,-⟩:=S.get (i:=8) (o:=.fz (.inst 822 7)) rfl
 obtain ⟨a9,e9,⟨kvs,k1,k2⟩,-⟩:=S.get (i:=9) (o:=.fz (.dc [(97,.loc 10),(98,.loc 11),(99,.loc 12)])) rfl
 obtain ⟨a10,e10,x10,-⟩:=S.get (i:=10) (o:=.fz (.tup (ny [5,7,2,0,0,0]))) rfl
 obtain ⟨a11,e11,x11,-⟩:=S.get (i:=11) (o:=.fz (.tup (ny [11,3,0,0,0,0]))) rfl
 obtain ⟨a12,e12,x12,-⟩:=S.get (i:=12) (o:=.fz (.tup (ny [4,1,9,0,0,0]))) rfl
 apply ng;clear ng
 have hm:Mp Gw as [a7,a8,a9]:=by
  intro i j ej x ex
  unfold Gw at ej
  split at ej
  ·rename_i z; subst z; cases ej; rw [e7] at ex; cases ex; rfl
  ·split at ej
   ·rename_i z; subst z; cases ej; rw [e8] at ex; cases ex; rfl
   ·split at ej
    ·rename_i z; subst z; cases ej; rw [e9] at ex; cases ex; rfl
    ·exact ap ej
 refine ⟨a7,a8,a9,e7,e8,e9,a7,a8,a9,rfl,bI (ρ:=ρ) (ρ':=dy []) (o:=Ar) hm xi rfl x7,bI (ρ:=ρ) (ρ':=dy []) (o:=.inst 822 7) hm wi trivial x8,a10,a11,a12,?_,sU x10,sU x11,sU x12⟩
 cases k1; rename_i c0 k1; cases k1; rename_i c1 k1; cases k1; rename_i c2 k1; cases k1
 rename_i b0 b1 b2
 apply bc;intro ng
 obtain ⟨p0,q0⟩:=b0; obtain ⟨p1,q1⟩:=b1; obtain ⟨p2,q2⟩:=b2
 obtain ⟨f0,x0,g0,h0⟩:=c0; obtain ⟨f1,x1,g1,h1⟩:=c1; obtain ⟨f2,x2,g2,h2⟩:=c2
 apply ng;clear ng
 subst f0; subst f1; subst f2
 dsimp only at g0 g1 g2 h0 h1 h2
 rw [e10] at g0; rw [e11] at g1; rw [e12] at g2
 cases g0; cases g1; cases g2
 apply bc;intro ng
 subst h0 h1 h2
 apply ng;clear ng
 exact k2
set_option tactic.hygienic false
end
noncomputable def Ng:VC:=VC.req (CE.le (IE.c 0) (IE.v 2)) (VC.req (CE.lt (IE.v 2) (IE.c 1000000)) (VC.ok [Ob1.ie (IE.add (IE.c 2) (IE.fn 30 (IE.v 1) (IE.v 2) (IE.c 8))) (IE.v 5),Ob1.ie (IE.v 4) (IE.v 4),Ob1.ie (IE.fn 31 (IE.v 1) (IE.v 2) (IE.c 8)) (IE.v 1),Ob1.ie (IE.add (IE.v 2) (IE.c 1)) (IE.v 2),Ob1.ie (IE.c 1) (IE.c 1),Ob1.ie (IE.c 5) (IE.c 5),Ob1.ie (IE.c 7) (IE.c 7),Ob1.ie (IE.c 2) (IE.c 2),Ob1.ie (IE.c 0) (IE.c 0),Ob1.ie (IE.c 0) (IE.c 0),Ob1.ie (IE.c 0) (IE.c 0),Ob1.ie (IE.c 11) (IE.c 11),Ob1.ie (IE.c 3) (IE.c 3),Ob1.ie (IE.c 0) (IE.c 0),Ob1.ie (IE.c 0) (IE.c 0),Ob1.ie (IE.c 0) (IE.c 0),Ob1.ie (IE.c 0) (IE.c 0),Ob1.ie (IE.c 4) (IE.c 4),Ob1.ie (IE.c 1) (IE.c 1),Ob1.ie (IE.c 9) (IE.c 9),Ob1.ie (IE.c 0) (IE.c 0),Ob1.ie (IE.c 0) (IE.c 0),Ob1.ie (IE.c 0) (IE.c 0),Ob1.ie (IE.v 3) (IE.v 3)]))
theorem Kz (P:Params):MQ P=Ng:=by kernel_rfl
theorem jy {as:List Addr} {n:Nat} (e:as.length=n):((List.range n).map fun j=>as.getD j 0)=as:=by
 apply List.ext_getElem
 ·simp [e]
 ·intro i h1 h2
  simp [List.getD,List.getElem?_eq_getElem h2]
theorem pw {P:Nat->Nd->Prop}:∀{Us:List Value} {nds:List Nd},All2 (fun U nd=>∃b,U = .ref b/\P b nd) Us nds->∃bs:List Int,Us=bs.map ak
 | _,_,.nil=>⟨[],rfl⟩
 | _,_,.cons ⟨b,e,_⟩ x=>let ⟨bs,z⟩:=pw x; ⟨(b:Int)::bs,by refine aa e (aa z ?_); rfl⟩
theorem BV {G G':Gr} {l:List Addr} (k:be G G'):be (strip l G) (strip l G'):=fun a o e=>by
 unfold strip at e ⊢
 split at e
 ·exact ap e
 ·rename_i m; refine aa (if_neg m) ?_; exact k a o e
theorem E7 {ρ:Rho} {vs:List AV} {s s0:St} {u1 u2 u3:AV} (y:(k3 vs s).ok ρ fun f s'=>f = .rt u1/\s' = { s0 with ls:=(S' "",u2)::(S' "",u3)::s0.ls }):vs = [u1,u2,u3]/\s=s0:=by
 induction vs using List.casesOn with
 | nil=>exact y.elim
 | cons v1 vs=>induction vs using List.casesOn with
  | nil=>exact y.elim
  | cons v2 vs=>induction vs using List.casesOn with
   | nil=>exact y.elim
   | cons v3 vs=>induction vs using List.casesOn with
    | cons v4 vs=>exact y.elim
    | nil =>
     have e1:v1=u1:=Fl.rt.inj y.1
     have e2:=Mg y.2
     have e3:=List.cons.inj e2.1
     have e4:=List.cons.inj e3.2
     refine aa e1 (aa (show v2=u2 from congrArg Prod.snd e3.1) (aa (show v3=u3 from congrArg Prod.snd e4.1) ?_))
     exact ⟨rfl,e2.2 e4.2⟩
section
variable {w:World} {ρ:Rho} {O:Opq} {A:Around} {gs:Array GenState} {dr:Drawn} {os:OsState} {g G:Gr} {env:Env} {h:Heap} {n:Nat} {s:St} {as:List Addr}
set_option tactic.hygienic true
theorem SR.growLe (S:SR w ρ O G env h s as) (keep:List Nat):be G (mu h env.locals (keep.filterMap (bX s.ob as))):=fun a o e=>by
 unfold mu
 rw [if_neg]
 ·exact S.kp a o e
 ·rintro (q | q)
  ·rw [q,S.fL] at e; exact ap e
  ·obtain ⟨j,mj,e1⟩:=List.mem_filterMap.mp q
   unfold bX at e1
   split at e1
   ·rename_i o' eo
    split at e1
    ·rename_i ow
     rw [((S.ob j o' a eo e1).2 ow).2] at e; exact ap e
    ·exact ap e1
   ·exact ap e1
set_option tactic.hygienic false
theorem vO {use:Option (Value->Sem Unit)} {x:Str} {px:Pos} {elt iter:Expr} {csc:Scope} {pos:Pos} {cls cl:List (Str×Nat)} (hok:c9 csc x=true) (hset:cp iter=false) (hcl:eJ cls csc.names []=some cl) (hcc:∀x i,cls.lookup x=some i->∃a,as[i]? = some a/\env.cells.lookup x=some a) :
  ∃Res,(∀x i,cl.lookup x=some i->∃a,as[i]? = some a/\Res.lookup x=some a)/\∀{A:Around} {Er Q:Value->Shared->Prop} {st:Shared} {p2:Pos},
   wpAny (model pr w) A (eval iter env) (fun v s₁=>wpAny (model pr w) A (pyIter v) (fun it s₂=>Cr w A Er Q env csc Res elt x px iter pos use it s₂) Er s₁) Er st->wpAny (model pr w) A (comprehension (.ListComp elt [⟨.Name x px,iter,[],0⟩] csc pos) csc env p2 (newList []) false (eval iter env) use) Q Er st:=by
 have ck:=eN hok
 apply bc;intro ng
 obtain ⟨Res,r1,r2⟩:=fX hcc hcl
 apply ng;clear ng
 exact ⟨Res,r2,fun {A Er Q st p2} h=>wpAny_comprehension_free rfl (dO hset) r1 ck.2.1 ck.2.2.1 h⟩
theorem mz {x y:Str} {px py:Pos} {elt iter:Expr} {csc:Scope} {pos spos:Pos} {E:Value->Shared->Prop} {Q:Flow->Shared->Prop} {st:Shared} (hsw:swapsWith (.ListComp elt [⟨.Name x px,iter,[],0⟩] csc pos) (some (.Name y py)) spos.line env=pure true)
  (q:wpAny (model pr w) A (comprehension (.ListComp elt [⟨.Name x px,iter,[],0⟩] csc pos) csc env (firstIterPos [⟨.Name x px,iter,[],0⟩] pos) (newList []) false (eval iter env) (some (assign (.Name y py) env))) (fun zw s'=>Q .next s') E st) :
  wpAny (model pr w) A (exec (.Assign [.Name y py] (.ListComp elt [⟨.Name x px,iter,[],0⟩] csc pos) spos) env) Q E st:=by
 refine aa (exec_Assign_Name_used _ _ _ _ hsw) ?_
 refine wpAny_bind (wpAny_standAt (wpAny_bind ?_))
 show wpAny _ A (do let _ <- comprehension (.ListComp elt [⟨.Name x px,iter,[],0⟩] csc pos) csc env (firstIterPos [⟨.Name x px,iter,[],0⟩] pos) (newList []) false (eval iter env) (some (assign (.Name y py) env))) _ _ st
 exact wpAny_bind (wpAny_mono q (fun zw s' hq=>wpAny_pure (wpAny_pure hq)) fun zw zw e=>e)
structure Drawn' (w:World) (G:Gr) (F:List Addr) (bs:List Int) (nds:List Nd):Prop where
 fo:aT w G F
 it:All2 (fun V nd=>∃b,V = .ref b/\bP G F b nd/\nd.ok/\nd.bd/\nd.k≠.pck) (bs.map ak) nds
 lo:2<=nds.length
 hi:nds.length<=9
noncomputable def pT (ns:List Int) (x c N:Int):Rho:=cV [0,x,c,kG ns,CH ns,N] fun zw=>[]
noncomputable def xA (ns:List Int) (x c:Int) (bs:List Int):Rho:=cV [0,x,c,kG ns,CH ns] fun k=>if k=1 then bs else []
def MG (ns:List Int) (F:List Addr) (L:Addr) (N:Int) (i:Nat) (Gi:Gr) (ρ:Rho) (s:St) (Us:List Value):Prop :=
 ∃x c,ρ=pT ns x c N/\s=eZ s.ls/\0<=c/\c<=3 + 20 * (i:Int)/\∃nds:List Nd,nds.length=i/\All2 (fun U nd=>∃b,U = .ref b/\bP (strip [L] Gi) F b nd/\nd.ok/\nd.bd/\nd.k≠.pck) Us nds
theorem Bm:∀(i:Nat) (a c:IE) o,(kS.set 6 (.lst [.int a,.int c]))[i]? = some o->o.own=true->∃o',kS[i]? = some o'/\o'.own=true:=by
 intro i a c o e ow
 match i,e with
 | 0,e=>cases e; cases ow
 | 1,e=>exact ⟨_,rfl,rfl⟩ | 2,e=>exact ⟨_,rfl,rfl⟩ | 3,e=>exact ⟨_,rfl,rfl⟩ | 4,e=>exact ⟨_,rfl,rfl⟩ | 5,e=>exact ⟨_,rfl,rfl⟩ | 6,e=>exact ⟨_,rfl,rfl⟩
 | 7,e=>cases e; cases ow
 | 8,e=>cases e; cases ow
 | 9,e=>cases e; cases ow
 | 10,e=>cases e; cases ow
 | 11,e=>cases e; cases ow
 | 12,e=>cases e; cases ow
 | i + 13,e=>exact ap e
theorem Dl (ls:List (Str×AV)) (a c:Int):aM (List.range 13) { eZ ls with ob:=kS.set 6 (.lst [.int (.c a),.int (.c c)]) } (eZ [])=some ([.ie (.v 4) (.v 4),.ie (.c a) (.v 1),.ie (.c c) (.v 2),.ie (.c 1) (.c 1)]++[5,7,2,0,0,0,11,3,0,0,0,0,4,1,9,0,0,0].map fun z=>.ie (.c z) (.c z)):=by kernel_rfl
theorem vN {ns:List Int} {x c N:Int} {i:Nat} {F:List Addr} {L it ac y f1:Addr} {O:Opq} {G1' G':Gr} {cenv:Env} {ls:List (Str×AV)} {V:Value} {Us:List Value} (R:Room A 199) (Fo:aT w O.g F) (hO:HB w O) (hf1:F[1]? = some f1) (gy:O.g y=none)
  (hi:i < 9) (hc:0<=c/\c<=3 + 20 * (i:Int)) {nds:List Nd} (hn:nds.length=i) (hT:All2 (fun U nd=>∃b,U = .ref b/\bP (strip [L] G1') F b nd/\nd.ok/\nd.bd/\nd.k≠.pck) Us nds) (g1:be G1' G') (fr:∀a∈[it,ac],G1' a=none)
  (exs:∀a∈[L,it,ac],∃o,G' a=some o) (csc:cenv.scope=vj w.params) (S5:SR w (pT ns x c N) O G' cenv h (eZ ls) as) (e6:as[6]? = some y) (e8:as[8]? = some f1) {fx:List (Nat×Addr)} (fxk:Fx fx as) (T E1 E2:Value->Shared->Prop)
  (q:∀U ρ' s' h' n' as' G2,be G' G2->MG ns F L N (i + 1) (strip [it,ac] G2) ρ' s' (Us++[U])->SR w ρ' O G2 cenv h' s' as'->Fx fx as'->T U ⟨h',gs,dr,n',os⟩) :
  wpAny (model pr w) A (storeName cenv (S' "lap") V) (fun zw s₂=>wpAny (model pr w) A (eval (.Call (.Name (bh (ax (dj w.params))) (aR (ax (dj w.params)))) [(aJ (dj w.params)).getD 0 (dj w.params),(aJ (dj w.params)).getD 1 (dj w.params),(aJ (dj w.params)).getD 2 (dj w.params)] [] (cf (dj w.params))) cenv) T E1 s₂) E2 ⟨h,gs,dr,n,os⟩:=by
 have HH:∀{ρ:Rho},H2 w ρ O aA 2:=H2.no hO
 have RR:Room A (12 + 2):=R.le (by (first | decide | lia | omega))
 refine aW (post:=fun f s=>s=eZ ((S' "lap",.any)::ls)) (v:=.any) (k:=fun s=>.leaf .nx s) (by rw [csc,Gd]; rfl) S5 trivial fun s6 h6 n6 y6 S6=>?_
 have y6:s6=_:=y6
 subst y6
 refine ju (Lm w.params) (nV w.params).1 (oy HH csc (Iz w.params _) RR S6 fun V7 h7 as7 n7 S7 p7 dv=>⟨dv,?_⟩)
 refine cR (post:=fun f s=>f = .rt (.loc 6)/\s = { eZ ((S' "lap",.any)::ls) with ls:=(S' "",.loc 8)::(S' "",.int (.v 4))::(eZ ((S' "lap",.any)::ls)).ls }) (k:=k3) (HH.run 12) RR (by refine aa csc ?_; exact (congrArg (fun t=>Tr.ok _ _ t) (Hi w.params _ k3)).mpr ⟨rfl,rfl⟩) S7 fun vs Ws s8 h8 as8 n8 y8 S8 p8 dvs hws=>⟨S8.k,?_⟩
 clear hws
 apply bc;intro ng
 obtain ⟨rfl,rfl⟩:=E7 (s0:=eZ ((S' "lap",.any)::ls)) y8
 apply ng;clear ng
 have e6:as8[6]? = some y:=p8.get (p7.get e6)
 have e8:as8[8]? = some f1:=p8.get (p7.get e8)
 apply bc;intro ng
 obtain ⟨W1,Wr,eW,d1,dvs⟩:=dvs.c
 obtain ⟨W2,W3,eW2,d2,t3,d3⟩:=dvs.two
 obtain ⟨y',ey,⟨Vs,v1,v2⟩,gn⟩:=S8.get (i:=6) (o:=.lst [.int (.v 1),.int (.v 2)]) rfl
 rw [eW,eW2,cA d1 e6,cA d2 e8,d3] at ng
 rw [<- show y=y' from aG (e6.symm.trans ey)] at v2 gn
 apply ng;clear ng eW eW2 d1 d2 d3 dvs
 have hin:IntsAre Vs [x,c]:=dK (es:=[.v 1,.v 2]) v1
 have hg:∀b o,O.g b=some o->G1 h8 y b=some o:=fun b o e=>(gS fun q=>ap (gy.symm.trans (q▸e))).trans (S8.kp _ _ (S8.og _ _ e))
 have B:gV w (G1 h8 y):=by
  apply bc;intro ng
  obtain ⟨hb,W,kb⟩:=hO
  apply ng;clear ng
  exact ⟨hb,W,fun a o e=>hg a o (kb a o e)⟩
 have od:=BJ ns
 refine th (g:=O.g) (F:=F) Fo hg B v2 hin ⟨hc.1,by (first | decide | lia | omega)⟩ od (R.le (by (first | decide | lia | omega))) hf1 fun h9 n9 b nd a' c' Vs' k9 L9 I9 l1 l2 N9 bd ok np=>?_
 have S10:=S8.obj' (j:=6) (o':=.lst [.int (.c a'),.int (.c c')]) rfl rfl e6 k9 (by
  let ⟨t0,t1,e⟩:=jz I9
  exact ⟨_,.cons ⟨t0,rfl⟩ (.cons ⟨t1,rfl⟩ .nil),e▸L9⟩)
 have S10:SR w (pT ns x c N) O G' cenv h9 { eZ ((S' "lap",.any)::ls) with ob:=kS.set 6 (.lst [.int (.c a'),.int (.c c')]) } as8:=S10
 apply bc;intro ng
 obtain ⟨S11,le11⟩:=S10.wide
 apply ng;clear ng
 have new:be (Gn h8 h9) (strip [L] (strip [it,ac] (dB h9 cenv.locals (kS.set 6 (.lst [.int (.c a'),.int (.c c')])) as8))):=by
  intro z o e
  unfold Gn at e
  split at e
  ·exact ap e
  ·rename_i hz
   have k8:∀a∈[L,it,ac],z≠a:=fun a m q=>by
    apply bc;intro ng
    obtain ⟨o,eo⟩:=exs a m
    apply ng;clear ng
    have:=S8.kp _ _ eo
    rw [<- q,hz] at this; exact ap this
   unfold strip
   refine aa (if_neg (by simpa using k8 L (.head _))) (aa (if_neg (by simp [k8 it (by simp),k8 ac (by simp)])) ?_)
   unfold dB
   rw [if_neg]
   ·exact e
   ·rintro (q | q)
    ·obtain ⟨fn,⟨oL,es,ep,l2,l3⟩,_⟩:=S8.lc
     rw [<- q,hz] at l2; exact ap l2
    ·obtain ⟨j,oj,z1,z2,z3⟩:=dA.mp q
     apply bc;intro ng
     obtain ⟨o',w1,w2⟩:=Bm j _ _ oj z1 z2
     obtain ⟨u,eu⟩:=((S8.ob j o' z w1 z3).1).ex w2
     apply ng;clear ng
     rw [hz] at eu; exact ap eu
 have S12:=S11.re (ρ':=pT ns a' c' N) (s':=eZ []) (List.range 13) (Dl _ a' c') ⟨rfl,rfl,rfl,rfl,rfl,rfl,rfl,rfl,rfl,rfl,rfl,rfl,rfl,rfl,rfl,rfl,rfl,rfl,rfl,rfl,rfl,rfl⟩
 rw [jy (n:=13) S11.sz] at S12
 refine q _ _ _ h9 n9 as8 _ le11 ⟨a',c',rfl,rfl,by (first | decide | lia | omega),by (first | decide | lia | omega),nds++[nd],by simp [hn],?_⟩ S12 fun p m=>p8.get (p7.get (fxk p m))
 have old:be (strip [L] G1') (strip [L] (strip [it,ac] (dB h9 cenv.locals (kS.set 6 (.lst [.int (.c a'),.int (.c c')])) as8))):=BV (be.strip fr fun a o e=>le11 a o (g1 a o e))
 exact (hT.mono fun zw zw ⟨b,e,n1,n2⟩=>⟨b,e,n1.le old,n2⟩).app (.cons ⟨b,rfl,N9.le new,ok,bd,np⟩ .nil)
end
theorem wF {n:Int} (h:2<=n/\n<=9):Builtin.Range.small 0 n 1=true/\Builtin.Range.rangeSize 0 n 1=n:=by
 have:n=2\/n=3\/n=4\/n=5\/n=6\/n=7\/n=8\/n=9:=by (first | lia | omega)
 rcases this with rfl | rfl | rfl | rfl | rfl | rfl | rfl | rfl <;> exact ⟨by decide,by decide⟩
theorem Kq (x c:Int):aM (List.range 13) ⟨[(S' "mode",.int (.v 3))],gW,kS,[]⟩ ⟨[(S' "mode",.int (.v 3))],gW,kS,[]⟩=some ([.ie (.v 4) (.v 4),.ie (.v 1) (.v 1),.ie (.v 2) (.v 2),.ie (.c 1) (.c 1)]++([5,7,2,0,0,0,11,3,0,0,0,0,4,1,9,0,0,0].map fun z=>.ie (.c z) (.c z))++[.ie (.v 3) (.v 3)]):=by kernel_rfl
theorem vg:gX [1,2,3,4,5,6,13] 0 jc.ob=jc.ob:=by kernel_rfl
theorem All2.len' {α β:Type} {R:α->β->Prop}:∀{l:List α} {m:List β},All2 R l m->l.length=m.length
 | _,_,.nil=>rfl
 | _,_,.cons _ x=>congrArg (· + 1) x.len'
section
variable {w:World} {A:Around} {gs:Array GenState} {dr:Drawn} {os:OsState} {g:Gr} {env:Env} {h:Heap} {n:Nat} {as:List Addr}
theorem jo {ρ:Rho} {O:Opq} {G:Gr} {s:St} (S:SR w ρ O G env h s as):jE [h.objs.size] env.locals s.ob as/\G h.objs.size=none:=by
 refine ⟨fun b m=>?_,?_⟩
 ·refine aa (List.mem_singleton.mp m) ?_
  apply bc;intro ng
  obtain ⟨f,N,_⟩:=S.lc
  apply ng;clear ng
  exact ⟨Nat.ne_of_gt N.lt,fun i o e ow e'=>absurd ((S.ob i o _ e e').1.lt ow) (Nat.lt_irrefl _)⟩
 ·induction qq:G h.objs.size with
  | none=>rfl
  | some x=>exact absurd (Heap.lt_size (S.kp _ _ qq)) (Nat.lt_irrefl _)
theorem i8 {m:Nat} {as as':List Addr}:Fx ((List.range m).zip as) as'↔∀i a,i < m->as[i]? = some a->as'[i]? = some a:=by
 constructor
 ·intro k i a hi e
  exact k (i,a) (List.mem_of_getElem? (i:=i) (List.getElem?_zip_eq_some.mpr ⟨by simp [hi],e⟩))
 ·rintro k ⟨i,a⟩ m
  obtain ⟨j,e⟩:=List.mem_iff_getElem?.mp m
  obtain ⟨e1,e2⟩:=List.getElem?_zip_eq_some.mp e
  obtain ⟨h1,h2⟩:=List.getElem?_eq_some_iff.mp e1
  simp at h1 h2
  subst h2
  exact k j a h1 e2
theorem AT (P:Params) {env:Env} (esc:env.scope=eY P) {elt iter:Expr} {px:Pos} {x:Str}:swapsWith (.ListComp elt [⟨.Name x px,iter,[],0⟩] (kI (mv P)) (vq (mv P))) (some (.Name (S' "items") (aR (CD (wW P))))) (rd (wW P)).line env=pure true:=by
 show (pure (env.blockKind == .function && env.kindOf (S' "items") == some .local && (aR (CD (wW P))).line == (vq (mv P)).line && !((kI (mv P)).names.any fun (n,k)=>n == S' "items" && (k == .local || k == .cell))):Sem Bool)=_
 have:=FO P
 unfold Eo at this
 unfold Env.blockKind Env.kindOf
 exact aa esc (aa this rfl)
theorem CT {l:Addr} {ns:List Int} (HO:HB w (OS l g)) (S:SR w (fu ns) (OS l g) g env h nR as) (esc:env.scope=eY w.params) (R:Room A 200) {Q:Flow->Shared->Prop} {E:Value->Shared->Prop}
  (q:∀G F bs nds x c h' n' as',be g G->SR w (xA ns x c bs) (OG w G) G env h' jc as'->Drawn' w G F bs nds->0<=c/\c<=200->wpAny (model pr w) A (execs ((dU w.params).drop 4) env) Q E ⟨h',gs,dr,n',os⟩) :
  wpAny (model pr w) A (execs ((dU w.params).drop 3) env) Q E ⟨h,gs,dr,n,os⟩:=by
 have SG:=S.grow [1,2,3,4,5,6]
 have gl:=S.growLe [1,2,3,4,5,6]
 have e0:({ nR with ob:=gX [1,2,3,4,5,6] 0 nR.ob }:St)=AI:=by refine aa Ag ?_; rfl
 rw [e0] at SG
 generalize mu h env.locals ([1,2,3,4,5,6].filterMap (bX nR.ob as))=G0 at SG gl
 have HB0:HB w (OG w G0):=by
  apply bc;intro ng
  obtain ⟨hb,W,kb⟩:=HO
  apply ng;clear ng
  exact ⟨hb,W,fun a o e=>gl a o (kb a o e)⟩
 apply bc;intro ng
 obtain ⟨f0,f1,f2,e7,e8,e9,Fo⟩:=vk SG
 apply ng;clear ng
 have HT:∀{vs ls},H2 w (cV vs ls) (OG w G0) fF 40:=⟨HB0,by (first | decide | lia | omega),eD rfl rfl⟩
 have RR:Room A (12 + 40):=R.le (by (first | decide | lia | omega))
 rw [wl]
 refine wpAny_execs_cons (mz (AT _ esc) ?_)
 apply bc;intro ng
 obtain ⟨c1,c2,c3⟩:=IU w.params
 obtain ⟨n1,n2,n3⟩:=LL w.params
 obtain ⟨Res,r1,r2⟩:=vO (use:=some (assign (.Name (S' "items") (aR (CD (wW w.params)))) env)) (x:=S' "lap") (px:=aR (CO (mv w.params))) (elt:=.Call (.Name (bh (ax (dj w.params))) (aR (ax (dj w.params)))) [(aJ (dj w.params)).getD 0 (dj w.params),(aJ (dj w.params)).getD 1 (dj w.params),(aJ (dj w.params)).getD 2 (dj w.params)] [] (cf (dj w.params))) (pos:=vq (mv w.params)) (w:=w) c1 c2 c3 SG.cc
 apply ng;clear ng
 refine r2 (nP (T:="range") (nV w.params).2 ?_)
 have nb:∀{Q:Value->Shared->Prop} {E:Value->Shared->Prop} {pos:Pos},Q (.type "range") ⟨h,gs,dr,n,os⟩->wpAny (model pr w) A (eval (.Name (bh (ax (rb w.params))) pos) env) Q E ⟨h,gs,dr,n,os⟩:=fun q=>by
  refine aa n1 ?_; exact su SG (by decide) (by decide) (by refine aa esc ?_; exact n2) n3 uj q
 refine nb ⟨rfl,?_⟩
 have dk:=bC (a:=jg ns) (c:=2) (m:=8) (by (first | decide | lia | omega))
 refine qk (ρ':=pT ns (bY (jg ns) 2 8) 3 (2 + bt (jg ns) 2 8)) HT esc (Kz w.params) (R.le (by (first | decide | lia | omega))) SG ?_ fun V h2 as2 n2' S2 p2 dv=>?_
 ·exact ⟨show (0:Int)<=2 by decide,show (2:Int) < 1000000 by decide,rfl,rfl,rfl,rfl,rfl,rfl,rfl,rfl,rfl,rfl,rfl,rfl,rfl,rfl,rfl,rfl,rfl,rfl,rfl,rfl,rfl,rfl,rfl,rfl⟩
 apply bc;intro ng
 obtain ⟨tN,rfl⟩:=dv
 apply ng;clear ng
 have p2:∀(i:Nat) a,i < 13->as[i]? = some a->([0,1,2,3,4,5,6,7,8,9,10,11,12].map fun j=>as2.getD j 0)[i]? = some a:=fun i a hi e=>by
  refine aa (show ([0,1,2,3,4,5,6,7,8,9,10,11,12]:List Nat)=List.range 13 from rfl) (aa (List.getElem?_map) (aa (List.getElem?_range hi) ?_))
  exact congrArg some ((List.getD_eq_getElem?_getD ..).trans (by refine aa (p2.get e) ?_; rfl))
 generalize ([0,1,2,3,4,5,6,7,8,9,10,11,12].map fun j=>as2.getD j 0)=as3 at S2 p2
 have hN:(IE.den (pT ns (bY (jg ns) 2 8) 3 (2 + bt (jg ns) 2 8)) (.v 5))=2 + bt (jg ns) 2 8:=rfl
 refine aa hN ?_
 have hb:2<=2 + bt (jg ns) 2 8/\2 + bt (jg ns) 2 8<=9:=by (first | decide | lia | omega)
 clear hN dk
 generalize 2 + bt (jg ns) 2 8=N at S2 hb
 apply bc;intro ng
 obtain ⟨sm,rs⟩:=wF hb
 apply ng;clear ng
 refine call_range_1 (s:=⟨h2,gs,dr,n2',os⟩) ?_
 refine wpAny_pyIter_range (IsRange.new _ _ _ _ _ _ _) sm ?_
 apply bc;intro ng
 obtain ⟨y,e6,-,gy⟩:=SG.get (i:=6) (o:=.lst [.int (.v 1),.int (.v 2)]) rfl
 apply ng;clear ng
 have gy:=(gy rfl).2
 refine aa rs ?_
 dsimp only
 have S3:=S2.stay (h':=h2.push { cls:=.type "range",data:=.fields #[.int 0 n2',.int N tN,.int 1 (n2' + 1)] }) fun zw zw e=>Heap.get?_push_of_some _ e
 generalize h2.push { cls:=.type "range",data:=.fields #[.int 0 n2',.int N tN,.int 1 (n2' + 1)] }=h3 at S3
 apply bc;intro ng
 obtain ⟨off,gi⟩:=jo S3
 apply ng;clear ng
 have S4:=S3.stay (h':=h3.push { cls:=.type "range_iterator",data:=.fields #[rawInt 0,rawInt N,rawInt 1] }) fun zw zw e=>Heap.get?_push_of_some _ e
 have j0:IsRangeIter (h3.push { cls:=.type "range_iterator",data:=.fields #[rawInt 0,rawInt N,rawInt 1] }) h3.objs.size ((0:Nat):Int) ((N.toNat:Nat) - ((0:Nat):Int)) 1:=by
  refine aa (show ((N.toNat:Nat):Int) - ((0:Nat):Int)=N by (first | decide | lia | omega)) ?_
  exact Heap.get?_push_size _ rfl
 generalize h3.push { cls:=.type "range_iterator",data:=.fields #[rawInt 0,rawInt N,rawInt 1] }=h4 at S4 j0
 generalize h3.objs.size=it at off gi j0
 have hcc:∀x i,Cm.lookup x=some i->∃a,as3[i]? = some a/\Res.lookup x=some a:=fun x i e=>by
  apply bc;intro ng
  obtain ⟨b,z1,z2⟩:=r1 x i e
  apply ng;clear ng
  have hi:i < 13:=by
   have:=(List.getElem?_eq_some_iff.mp z1).1
   have sz:as.length=13:=SG.sz
   (first | decide | lia | omega)
  exact ⟨b,p2 i b hi z1,z2⟩
 apply bc;intro ng
 obtain ⟨fL,⟨oL,es,ep,l2,l3,l4⟩,lk⟩:=id S4.lc
 apply ng;clear ng
 refine tD (d:=0) (fx:=(List.range 13).zip as3) (N:=N.toNat) (R.le (m:=0) (by (first | decide | lia | omega))) c1 hcc S4 Nxt.range j0 (by (first | decide | lia | omega)) gi off (MG ns [f0,f1,f2] env.locals N) (fun G' le=>⟨_,3,rfl,rfl,by (first | decide | lia | omega),by (first | decide | lia | omega),[],rfl,.nil⟩) (i8.mpr fun i a zw e=>e) ?_ ?_
 ·intro i G1' G' ρ s Us cenv h5 n5 as5 V ac hi hV z1 gg g1 fr z2 hL lac nia csc nel S5 fxk T E1 E2 qT
  apply bc;intro ng
  obtain ⟨x,c,rfl,hs,hc0,hc1,nds,hn,hT⟩:=z1
  obtain ⟨ito,eit,nit⟩:=z2
  rw [hs] at S5
  apply ng;clear ng
  have fz:=i8.mp fxk
  refine vN (O:=OG w G0) (L:=env.locals) (it:=it) (ac:=ac) (G1':=G1') (R.le (by (first | decide | lia | omega))) Fo HB0 rfl gy (by (first | decide | lia | omega)) ⟨hc0,hc1⟩ hn hT g1 fr ?_ (by refine aa csc (aa esc ?_); rfl) S5 (fz 6 y (by (first | decide | lia | omega)) (p2 6 y (by (first | decide | lia | omega)) e6)) (fz 8 f1 (by (first | decide | lia | omega)) (p2 8 f1 (by (first | decide | lia | omega)) e8)) fxk T E1 E2 qT
  intro a m
  cases m with
  | head=>exact ⟨oL,hL oL l2⟩
  | tail _ m=>exact jB (p:=fun a=>∃o,G' a=some o) ⟨ito,eit⟩ (let ⟨o,eo,_⟩:=lac; ⟨o,eo⟩) a m
 ·intro ρ s' h' n' as' G' ac Us cL z1 gg gc z2 back fxk la of acL ga
  apply bc;intro ng
  obtain ⟨x,c,rfl,hs,hc0,hc1,nds,hn,hT⟩:=z1
  obtain ⟨m,Nm⟩:=z2
  apply ng;clear ng
  have fz:=i8.mp fxk
  have ob':s'.ob=kS:=by refine aa hs ?_; rfl
  apply bc;intro ng
  obtain ⟨bs,hbs⟩:=pw hT
  apply ng;clear ng
  rw [ob'] at back of
  have S5:=back [(S' "mode",.int (.v 3))] gW (fun x v e=>⟨v,e,fun V d=>by
   have ev:v = .int (.v 3):=by
    rw [List.lookup_cons] at e
    split at e
    ·cases e; rfl
    ·exact ap e
   subst ev
   exact d⟩) fun x i e=>⟨i,e,fun a ea=>fz i a (by
    have:=(List.getElem?_eq_some_iff.mp ea).1
    have sz:as3.length=13:=S4.sz
    (first | decide | lia | omega)) ea⟩
  have S6:=S5.re (ρ':=xA ns x c bs) (s':=⟨[(S' "mode",.int (.v 3))],gW,kS,[]⟩) (List.range 13) (Kq x c) ⟨rfl,rfl,rfl,rfl,rfl,rfl,rfl,rfl,rfl,rfl,rfl,rfl,rfl,rfl,rfl,rfl,rfl,rfl,rfl,rfl,rfl,rfl,rfl⟩
  have sz:as'.length=13:=S5.sz
  rw [jy (n:=13) S5.sz] at S6
  have hga:Gr.add (strip [env.locals] G') h' [cL] ac=none:=by
   unfold Gr.add
   refine aa (if_neg (by simpa using acL)) ?_; exact ga
  have S7:=S6.take (a:=ac) (ao:=.rf 1) hga (fun a m=>of a (by refine aa (List.mem_singleton.mp m) ?_; exact .head _)) (by rw [hbs] at la; exact la)
  have S7:SR w (xA ns x c bs) (OG w G0) (Gr.add (strip [env.locals] G') h' [cL]) env h' ⟨[(S' "mode",.int (.v 3))],gW,kS++[.rf 1],[]⟩ (as'++[ac]):=S7
  show wpAny _ A (assign (.Name (S' "items") (aR (CD (wW w.params)))) env (.ref ac)) _ _ _
  refine wpAny_assign_Name (aW (post:=fun f s=>s=jc) (v:=.loc 13) (k:=fun s=>.leaf .nx s) (by refine aa esc ?_; exact (congrArg (fun t=>Tr.ok _ _ t) (AW w.params)).mpr rfl) S7 ⟨ac,by refine aa (Eq.symm sz) ?_; exact aX,rfl⟩ fun s6 h6 n6 y6 S8=>?_)
  have y6:s6=_:=y6
  subst y6
  have kc:∀o,h'.get? cL=some o->h6.get? cL=some o:=fun o e=>S8.kp _ _ (by unfold Gr.add; refine aa (if_pos (.head _)) ?_; exact e)
  have ec:∃o,h'.get? cL=some o:=let ⟨o,_,_,e,_⟩:=Nm; ⟨o,e⟩
  refine ⟨m,(let ⟨o,a,b,e,r⟩:=Nm; ⟨o,a,b,kc _ e,r⟩),fun h7 hs7=>?_⟩
  have S9:=(S8.drop1 gc ec (let ⟨hb,W,kb⟩:=HB0; ⟨hb,W,fun a o e=>gg a o (kb a o e)⟩) gg (h'':=h7) fun b x m e=>(hs7.2 b fun q=>m (q▸.head _)).trans e).1
  have S10:=S9.grow [1,2,3,4,5,6,13]
  have gl2:=S9.growLe [1,2,3,4,5,6,13]
  have e1:({ jc with ob:=gX [1,2,3,4,5,6,13] 0 jc.ob }:St)=jc:=by exact aa vg rfl
  rw [e1] at S10
  rw [hbs] at hT
  have hl:=hT.len'
  refine q _ [f0,f1,f2] bs nds x c h7 n6 (as'++[ac]) (fun a o e=>gl2 a o (gg a o (gl a o e))) S10 ⟨Fo.le fun a o e=>gl2 a o (gg a o e),hT.mono fun zw zw ⟨b,e,n1,n2⟩=>⟨b,e,n1.le gl2,n2⟩,by (first | decide | lia | omega),by (first | decide | lia | omega)⟩ ⟨hc0,by (first | decide | lia | omega)⟩
end
noncomputable def CI (k1 k2:Hk):Hk:=fun a args ob=>match k1 a args ob with | some r=>some r | none=>k2 a args ob
noncomputable def jk (P:Params) (i j:Nat):List Stmt:=((dU P).drop i).take j
noncomputable def uO (cs:List Nat):Hk:=CI fF (CI (LZ cs) (MF cs))
noncomputable def rj:List (Str×Nat):=[(S' "heap",0),(S' "font",1),(S' "orders",2),(S' "spots_told",3),(S' "begin",4)]
noncomputable def ER:List AO:=[.cell (some (.loc 5)),.cell none,.cell none,.cell none,.cell none,.lst [.int (.v 1),.int (.v 2)],.rf 1]
noncomputable def AK:St:=⟨[(S' "items",.loc 6),(S' "mode",.int (.v 3))],rj,ER,[]⟩
theorem EM:aM [1,2,3,4,5,6,13] jc AK=some [.ie (.v 1) (.v 1),.ie (.v 2) (.v 2),.rf 1 1,.ie (.v 3) (.v 3)]:=by kernel_rfl
noncomputable def GJ:List (Str×AV):=[(S' "gap",.int (.v 6)),(S' "own",.int (.v 5)),(S' "items",.loc 6),(S' "mode",.int (.v 3))]
noncomputable def Fz:St:=⟨GJ,rj,ER,[]⟩
noncomputable def CR (P:Params):VC:=(cx P (uO [1]) 30 (eY P) (jk P 4 2) AK).vc [0,1,2,3,4,5,6] .nx Fz
noncomputable def pv (j:Nat):AV:=.int (.v (20 + j))
noncomputable def r6 (i n:Nat):List AO:=[.tup [pv 16,pv 17],
 .ns [(S' "ratio",.loc n),(S' "order",pv 15),(S' "sign",pv 14),(S' "shift",.int (.c 0)),(S' "items",.loc i),(S' "depth",pv 1),(S' "height",pv 0),(S' "width",pv 13),(S' "kind",.int (.c 2))],
 .inst 389 (n + 1),.tup [pv 18,pv 19],.tup [.loc (n + 2),.loc (n + 3)]]
noncomputable def lF (r t:Nat):AO:=.tup [.int (.c 2),pv 13,pv 0,pv 1,.int (.c 0),pv 14,pv 15,.loc r,.loc t]
noncomputable def Bj:List AO:=[.cell (some (.loc 5)),.cell none,.cell none,.cell (some (.loc 14)),.cell none,.lst [.int (.v 1),.int (.v 2)],.rf 1,.rf 1]++r6 7 8++[lF 8 11,.il 201 []]++[.rf 1]++r6 15 16
noncomputable def mc:St:=⟨[(S' "twin",.loc 20),(S' "told",.loc 13),(S' "packed",.loc 12)]++GJ,rj,Bj,[]⟩
noncomputable def Gp (P:Params):VC:=(cx P (uO [1]) 30 (eY P) (jk P 6 3) Fz).vc [0,1,2,3,4,5,6,7,8,9,10,11,12,13,14,16,17,18,19,20,21] .nx mc
noncomputable def iP (vs:List Int) (ls:Nat->List Int) (N:Nat->List Nd) (B:Nat->Bx):Rho :=
 ⟨fun i=>vs.getD i 0,fun k a b c=>if k < 100 then GH k a b c else if k < 120 then (mA (ad (N a.toNat)) (N a.toNat).isEmpty b c).getD (k - 100) 0 else if k=120 then (B a.toNat).s else if k=121 then (B a.toNat).o else if k=122 then (B a.toNat).p else if k=123 then (B a.toNat).q else if k=900 then ((ls a.toNat).length:Int) else 0,ls⟩
section
variable {w:World} {g:Gr} {F:List Addr} {vs:List Int} {ls:Nat->List Int} {cs:List Nat} {N:Nat->List Nd} {B:Nat->Bx}
theorem hQ (fo:aT w g F) (it:∀k∈cs,All2 (fun V nd=>∃x,V = .ref x/\bP g F x nd/\nd.ok) ((ls k).map ak) (N k)) (fit:∀k∈cs,(ad (N k)).fit 20) (len:∀k∈cs,(N k).length<=800) (bo:∀k∈cs,(B k).ok) (pl:∀k∈cs,ls (200 + k)=(bw (B k) (N k)).out) :
  LawE w g F (iP vs ls N B) cs N B:=by
 refine ⟨fo,it,fit,len,fun k hk j hj m e=>?_,fun k hk=>⟨rfl,rfl,rfl,rfl,bo k hk⟩,pl⟩
 show (if 100 + j < 100 then _ else if 100 + j < 120 then _ else _)=_
 rw [if_neg (by (first | lia | omega)),if_pos (by (first | lia | omega)),Nat.add_sub_cancel_left]
 rfl
theorem nF (L:LawE w g F (iP vs ls N B) cs N B):ay w (iP vs ls N B) (OG w g) (uO cs) 81 :=
 ay.or (ay.le (d:=40) (eD rfl rfl) (by (first | decide | lia | omega))) (ay.or (sX L) (ay.le (d:=41) (rP L) (by (first | decide | lia | omega))))
end
noncomputable def za:VC:=VC.req (CE.ilen 1 0) (VC.req (CE.le (IE.c 0) (IE.v 2)) (VC.req (CE.lt (IE.v 2) (IE.c 1000000)) (VC.req (CE.le (IE.c 0) (IE.add (IE.v 2) (IE.c 1))) (VC.req (CE.lt (IE.add (IE.v 2) (IE.c 1)) (IE.c 1000000)) (VC.req (CE.le (IE.c 0) (IE.add (IE.add (IE.v 2) (IE.c 1)) (IE.c 1))) (VC.req (CE.lt (IE.add (IE.add (IE.v 2) (IE.c 1)) (IE.c 1)) (IE.c 1000000)) (VC.req (CE.le (IE.c 0) (IE.add (IE.add (IE.add (IE.v 2) (IE.c 1)) (IE.c 1)) (IE.c 1))) (VC.req (CE.lt (IE.add (IE.add (IE.add (IE.v 2) (IE.c 1)) (IE.c 1)) (IE.c 1)) (IE.c 1000000)) (VC.br (CE.eq (IE.fn 30 (IE.fn 31 (IE.fn 31 (IE.fn 31 (IE.v 1) (IE.v 2) (IE.c 60)) (IE.add (IE.v 2) (IE.c 1)) (IE.c 60)) (IE.add (IE.add (IE.v 2) (IE.c 1)) (IE.c 1)) (IE.c 300)) (IE.add (IE.add (IE.add (IE.v 2) (IE.c 1)) (IE.c 1)) (IE.c 1)) (IE.c 4)) (IE.c 3)) (VC.ok [Ob1.ie (IE.fn 31 (IE.fn 31 (IE.fn 31 (IE.fn 31 (IE.v 1) (IE.v 2) (IE.c 60)) (IE.add (IE.v 2) (IE.c 1)) (IE.c 60)) (IE.add (IE.add (IE.v 2) (IE.c 1)) (IE.c 1)) (IE.c 300)) (IE.add (IE.add (IE.add (IE.v 2) (IE.c 1)) (IE.c 1)) (IE.c 1)) (IE.c 4)) (IE.v 1),Ob1.ie (IE.add (IE.add (IE.add (IE.add (IE.v 2) (IE.c 1)) (IE.c 1)) (IE.c 1)) (IE.c 1)) (IE.v 2),Ob1.rf 1 1,Ob1.ie (IE.mul (IE.c 65536) (IE.sub (IE.fn 30 (IE.fn 31 (IE.fn 31 (IE.v 1) (IE.v 2) (IE.c 60)) (IE.add (IE.v 2) (IE.c 1)) (IE.c 60)) (IE.add (IE.add (IE.v 2) (IE.c 1)) (IE.c 1)) (IE.c 300)) (IE.c 150))) (IE.v 6),Ob1.ie (IE.fn 113 (IE.c 1) (IE.c 1) (IE.c 0)) (IE.v 5),Ob1.ie (IE.v 3) (IE.v 3)]) (VC.br (CE.eq (IE.fn 30 (IE.fn 31 (IE.fn 31 (IE.fn 31 (IE.v 1) (IE.v 2) (IE.c 60)) (IE.add (IE.v 2) (IE.c 1)) (IE.c 60)) (IE.add (IE.add (IE.v 2) (IE.c 1)) (IE.c 1)) (IE.c 300)) (IE.add (IE.add (IE.add (IE.v 2) (IE.c 1)) (IE.c 1)) (IE.c 1)) (IE.c 4)) (IE.c 2)) (VC.ok [Ob1.ie (IE.fn 31 (IE.fn 31 (IE.fn 31 (IE.fn 31 (IE.v 1) (IE.v 2) (IE.c 60)) (IE.add (IE.v 2) (IE.c 1)) (IE.c 60)) (IE.add (IE.add (IE.v 2) (IE.c 1)) (IE.c 1)) (IE.c 300)) (IE.add (IE.add (IE.add (IE.v 2) (IE.c 1)) (IE.c 1)) (IE.c 1)) (IE.c 4)) (IE.v 1),Ob1.ie (IE.add (IE.add (IE.add (IE.add (IE.v 2) (IE.c 1)) (IE.c 1)) (IE.c 1)) (IE.c 1)) (IE.v 2),Ob1.rf 1 1,Ob1.ie (IE.c 0) (IE.v 6),Ob1.ie (IE.fn 113 (IE.c 1) (IE.c 1) (IE.c 0)) (IE.v 5),Ob1.ie (IE.v 3) (IE.v 3)]) (VC.br (CE.eq (IE.fn 30 (IE.fn 31 (IE.fn 31 (IE.fn 31 (IE.v 1) (IE.v 2) (IE.c 60)) (IE.add (IE.v 2) (IE.c 1)) (IE.c 60)) (IE.add (IE.add (IE.v 2) (IE.c 1)) (IE.c 1)) (IE.c 300)) (IE.add (IE.add (IE.add (IE.v 2) (IE.c 1)) (IE.c 1)) (IE.c 1)) (IE.c 4)) (IE.c 1)) (VC.ok [Ob1.ie (IE.fn 31 (IE.fn 31 (IE.fn 31 (IE.fn 31 (IE.v 1) (IE.v 2) (IE.c 60)) (IE.add (IE.v 2) (IE.c 1)) (IE.c 60)) (IE.add (IE.add (IE.v 2) (IE.c 1)) (IE.c 1)) (IE.c 300)) (IE.add (IE.add (IE.add (IE.v 2) (IE.c 1)) (IE.c 1)) (IE.c 1)) (IE.c 4)) (IE.v 1),Ob1.ie (IE.add (IE.add (IE.add (IE.add (IE.v 2) (IE.c 1)) (IE.c 1)) (IE.c 1)) (IE.c 1)) (IE.v 2),Ob1.rf 1 1,Ob1.ie (IE.neg (IE.fn 30 (IE.fn 31 (IE.v 1) (IE.v 2) (IE.c 60)) (IE.add (IE.v 2) (IE.c 1)) (IE.c 60))) (IE.v 6),Ob1.ie (IE.fn 113 (IE.c 1) (IE.c 1) (IE.c 0)) (IE.v 5),Ob1.ie (IE.v 3) (IE.v 3)]) (VC.br (CE.eq (IE.fn 30 (IE.fn 31 (IE.fn 31 (IE.fn 31 (IE.v 1) (IE.v 2) (IE.c 60)) (IE.add (IE.v 2) (IE.c 1)) (IE.c 60)) (IE.add (IE.add (IE.v 2) (IE.c 1)) (IE.c 1)) (IE.c 300)) (IE.add (IE.add (IE.add (IE.v 2) (IE.c 1)) (IE.c 1)) (IE.c 1)) (IE.c 4)) (IE.c 0)) (VC.ok [Ob1.ie (IE.fn 31 (IE.fn 31 (IE.fn 31 (IE.fn 31 (IE.v 1) (IE.v 2) (IE.c 60)) (IE.add (IE.v 2) (IE.c 1)) (IE.c 60)) (IE.add (IE.add (IE.v 2) (IE.c 1)) (IE.c 1)) (IE.c 300)) (IE.add (IE.add (IE.add (IE.v 2) (IE.c 1)) (IE.c 1)) (IE.c 1)) (IE.c 4)) (IE.v 1),Ob1.ie (IE.add (IE.add (IE.add (IE.add (IE.v 2) (IE.c 1)) (IE.c 1)) (IE.c 1)) (IE.c 1)) (IE.v 2),Ob1.rf 1 1,Ob1.ie (IE.fn 30 (IE.v 1) (IE.v 2) (IE.c 60)) (IE.v 6),Ob1.ie (IE.fn 113 (IE.c 1) (IE.c 1) (IE.c 0)) (IE.v 5),Ob1.ie (IE.v 3) (IE.v 3)]) VC.fail))))))))))))
theorem A3 (P:Params):CR P=za:=by kernel_rfl
noncomputable def Cq (m e:IE) (z:VC):VC:=.req (.le (.c 0) m) (.req (.le m (.c 1)) (.req (.le (.c (-100000000)) e) (.req (.le e (.c 100000000)) z)))
noncomputable def fK (k:Nat) (b:Int) (m e:IE):IE:=.fn k (.c b) m e
noncomputable def Gy (b:Int) (m e:IE) (z:VC):VC:=.req (.eq (fK 116 b m e) (fK 122 b (.c 0) (.c 0))) (.req (.eq (fK 117 b m e) (fK 123 b (.c 0) (.c 0))) (.req (.eq (fK 115 b m e) (fK 121 b (.c 0) (.c 0))) (.req (.eq (fK 114 b m e) (fK 120 b (.c 0) (.c 0))) z)))
noncomputable def GA (b:Int) (m e:IE) (z:VC):VC:=.req (.eq (.c 2) (.c 2)) (.req (.eq (fK 113 b m e) (.v 33)) (.req (.eq (fK 100 b m e) (.v 20)) (.req (.eq (fK 101 b m e) (.v 21)) (.req (.eq (.c 0) (.c 0)) (.req (.eq (fK 114 b m e) (.v 34)) (.req (.eq (fK 115 b m e) (.v 35)) (.req (.eq (fK 116 b m e) (.v 36)) (.req (.eq (fK 117 b m e) (.v 37)) (.req (.eq (fK 118 b m e) (.v 38)) (.req (.eq (fK 119 b m e) (.v 39)) z))))))))))
noncomputable def eG:IE:=.add (.v 5) (.v 6)
noncomputable def MU (m e m' e':IE):VC:=.ok [.ie (.v 1) (.v 1),.ie (.v 2) (.v 2),.rf 1 1,.rf 1 1,.ie (fK 116 1 m e) (.v 36),.ie (fK 117 1 m e) (.v 37),.ie (fK 115 1 m e) (.v 35),.ie (fK 114 1 m e) (.v 34),.ie (.c 0) (.c 0),.ie (fK 101 1 m e) (.v 21),.ie (fK 100 1 m e) (.v 20),.ie (fK 113 1 m e) (.v 33),.ie (.c 2) (.c 2),.ie (fK 118 1 m e) (.v 38),.ie (fK 119 1 m e) (.v 39),.ie (.c 2) (.c 2),.ie (fK 113 1 m e) (.v 33),.ie (fK 100 1 m e) (.v 20),.ie (fK 101 1 m e) (.v 21),.ie (.c 0) (.c 0),.ie (fK 114 1 m e) (.v 34),.ie (fK 115 1 m e) (.v 35),.il 201 [] 201 [],.rf 1 1,.ie (fK 116 1 m' e') (.v 36),.ie (fK 117 1 m' e') (.v 37),.ie (fK 115 1 m' e') (.v 35),.ie (fK 114 1 m' e') (.v 34),.ie (.c 0) (.c 0),.ie (fK 101 1 m' e') (.v 21),.ie (fK 100 1 m' e') (.v 20),.ie (fK 113 1 m' e') (.v 33),.ie (.c 2) (.c 2),.ie (fK 118 1 m' e') (.v 38),.ie (fK 119 1 m' e') (.v 39),.ie (.v 6) (.v 6),.ie (.v 5) (.v 5),.ie (.v 3) (.v 3)]
noncomputable def HF (e e':IE):VC:=Cq (.v 3) e (Gy 1 (.v 3) e (.req (.ilen 1 0) (Cq (.sub (.c 1) (.v 3)) e' (MU (.v 3) e (.sub (.c 1) (.v 3)) e'))))
noncomputable def zi:VC:=.req (.ilen 1 0) (.br (.eq (.v 3) (.c 1)) (HF (.v 6) eG) (HF eG (.v 6)))
theorem Aq (P:Params):Gp P=zi:=by kernel_rfl
def jw (ρ ρ':Rho) (k:Nat) (m e:IE):Prop:=∀j,j∈[0,1,13,14,15,16,17,18,19]->ρ.f (100 + j) k (m.den ρ) (e.den ρ)=ρ'.v (20 + j)
def Cf (ρ ρ':Rho) (k:Nat):Prop:=ρ.f 120 k 0 0=ρ'.v 34/\ρ.f 121 k 0 0=ρ'.v 35/\ρ.f 122 k 0 0=ρ'.v 36/\ρ.f 123 k 0 0=ρ'.v 37
theorem i5 {ρ ρ':Rho} {m e:IE} {z:VC} (a:m.den ρ=0\/m.den ρ=1) (b : -100000000<=e.den ρ/\e.den ρ<=100000000) (k:z.den ρ ρ'):(Cq m e z).den ρ ρ' :=
 have h:0<=m.den ρ/\m.den ρ<=1:=a.elim (fun e=>by refine aa e ?_; decide) fun e=>by refine aa e ?_; decide
 ⟨h.1,h.2,b.1,b.2,k⟩
theorem mB {ρ ρ':Rho} {k:Nat} {m e:IE} {z:VC} (h:jw ρ ρ k m e) (y:z.den ρ ρ'):(GA k m e z).den ρ ρ' :=
 ⟨rfl,h 13 (by decide),h 0 (by decide),h 1 (by decide),rfl,h 14 (by decide),h 15 (by decide),h 16 (by decide),h 17 (by decide),h 18 (by decide),h 19 (by decide),y⟩
theorem mV {ρ ρ' ρ2:Rho} {k:Nat} {m e:IE} {z:VC} (h:jw ρ ρ2 k m e) (K:Cf ρ ρ2 k) (y:z.den ρ ρ'):(Gy k m e z).den ρ ρ' :=
 ⟨(h 16 (by decide)).trans K.2.2.1.symm,(h 17 (by decide)).trans K.2.2.2.symm,(h 15 (by decide)).trans K.2.1.symm,(h 14 (by decide)).trans K.1.symm,y⟩
theorem B6 {own gap:Int} (hg : -9830400<=gap/\gap<=9830400) (ht : -72<=own/\own<=35100000):(-100000000<=gap/\gap<=100000000)/\-100000000<=own + gap/\own + gap<=100000000:=by omega
theorem rZ {ρ ρ':Rho} {e e':IE} (h3:(IE.v 3).den ρ=0\/(IE.v 3).den ρ=1) (h3':(IE.sub (.c 1) (.v 3)).den ρ=0\/(IE.sub (.c 1) (.v 3)).den ρ=1) (he : -100000000<=e.den ρ/\e.den ρ<=100000000) (he' : -100000000<=e'.den ρ/\e'.den ρ<=100000000) (h:jw ρ ρ' (1:Nat) (.v 3) e) (g:jw ρ ρ' (1:Nat) (.sub (.c 1) (.v 3)) e') (K:Cf ρ ρ' (1:Nat)) (hl:(CE.ilen 1 0).den ρ)
  (b1:ρ.v 1=ρ'.v 1) (b2:ρ.v 2=ρ'.v 2) (b6:ρ.v 6=ρ'.v 6) (b5:ρ.v 5=ρ'.v 5) (b3:ρ.v 3=ρ'.v 3) (l1:ρ.l 1=ρ'.l 1) (l2:(Ob1.il 201 [] 201 []).den ρ ρ'):(HF e e').den ρ ρ':=by
 have r:=fun j hj=>h j hj; have s:=fun j hj=>g j hj
 exact i5 h3 he (mV h K ⟨hl,i5 h3' he' ⟨b1,b2,l1,l1,r 16 (by decide),r 17 (by decide),r 15 (by decide),r 14 (by decide),rfl,r 1 (by decide),r 0 (by decide),r 13 (by decide),rfl,r 18 (by decide),r 19 (by decide),rfl,r 13 (by decide),r 0 (by decide),r 1 (by decide),rfl,r 14 (by decide),r 15 (by decide),l2,l1,
  s 16 (by decide),s 17 (by decide),s 15 (by decide),s 14 (by decide),rfl,s 1 (by decide),s 0 (by decide),s 13 (by decide),rfl,s 18 (by decide),s 19 (by decide),b6,b5,b3⟩⟩)
theorem Ap {t:Tot} {em:Bool} {m a m' a':Int} (e:bK t m a=bK t m' a') (j:Nat) (h1:j≠11) (h2:j≠12):(mA t em m a).getD j 0=(mA t em m' a').getD j 0:=by
 unfold mA
 refine aa e ?_
 match j,h1,h2 with
 | 0,_,_ | 1,_,_ | 2,_,_ | 3,_,_ | 4,_,_ | 5,_,_ | 6,_,_ | 7,_,_ | 8,_,_ | 9,_,_ | 10,_,_ | 13,_,_ | 14,_,_ | 15,_,_ | 16,_,_ | 17,_,_ | 18,_,_ | 19,_,_=>rfl
 | 11,h,_=>exact absurd rfl h
 | 12,_,h=>exact absurd rfl h
 | n + 20,_,_=>rfl
noncomputable def q7 (x c:Int):Int :=
 if bt (bY (bY (bY x c 60) (c + 1) 60) (c + 1 + 1) 300) (c + 1 + 1 + 1) 4=3 then 65536 * (bt (bY (bY x c 60) (c + 1) 60) (c + 1 + 1) 300 - 150)
 else if bt (bY (bY (bY x c 60) (c + 1) 60) (c + 1 + 1) 300) (c + 1 + 1 + 1) 4=2 then 0
 else if bt (bY (bY (bY x c 60) (c + 1) 60) (c + 1 + 1) 300) (c + 1 + 1 + 1) 4=1 then -bt (bY x c 60) (c + 1) 60
 else bt x c 60
theorem vn (x c:Int) : -9830400<=q7 x c/\q7 x c<=9830400:=by
 have h1:=bC (a:=x) (c:=c) (m:=60) (by (first | decide | lia | omega))
 have h2:=bC (a:=bY x c 60) (c:=c + 1) (m:=60) (by (first | decide | lia | omega))
 have h3:=bC (a:=bY (bY x c 60) (c + 1) 60) (c:=c + 1 + 1) (m:=300) (by (first | decide | lia | omega))
 unfold q7
 repeat' split
 all_goals (first | decide | lia | omega)
noncomputable def bS (x c md own gap b e u v:Int) (P:List Int):List Int:=[0,x,c,md,0,own,gap,0,b,e,0,u,v,0,0,0,0,0,0,0]++P
noncomputable def Nq (bs:List Int) (nds:List Nd) (gap:Int) (k:Nat):List Int:=if k=1 then bs else if k=201 then av (aI (ad nds) gap) nds else []
noncomputable def PV (nds:List Nd) (gap:Int):List Int:=mA (ad nds) nds.isEmpty 1 gap
theorem fE {x c md own gap b e u v:Int} {P:List Int} (j:Nat):(bS x c md own gap b e u v P).getD (20 + j) 0=P.getD j 0:=by
 unfold bS
 refine aa (List.getD_eq_getElem?_getD) (aa (List.getElem?_append_right (Nat.le_add_right 20 j)) (aa (List.getD_eq_getElem?_getD) ?_))
 exact congrArg (fun i=>(P[i]?).getD 0) (Nat.add_sub_cancel_left 20 j)
theorem ur {vs:List Int} {ls:Nat->List Int} {N:Nat->List Nd} {B:Nat->Bx} {nds:List Nd} {k:Nat} {gap m a:Int} (ht:ad (N k)=ad nds) (hm:(N k).isEmpty=nds.isEmpty) (hw:bK (ad nds) m a=bK (ad nds) 1 gap) (j:Nat) (hj:j∈[0,1,13,14,15,16,17,18,19]):(iP vs ls N B).f (100 + j) k m a=(PV nds gap).getD j 0:=by
 have rng:∀j,j∈[0,1,13,14,15,16,17,18,19]->100 + j < 120/\j≠11/\j≠12:=by decide
 show (if 100 + j < 100 then _ else if 100 + j < 120 then _ else _)=_
 rw [if_neg (Nat.not_lt.mpr (Nat.le_add_right 100 j)),if_pos (rng j hj).1,Nat.add_sub_cancel_left]
 show (mA (ad (N k)) (N k).isEmpty m a).getD j 0=_
 refine aa ht (aa hm ?_)
 exact Ap hw j (rng j hj).2.1 (rng j hj).2.2
noncomputable def bl (bs:List Int) (nds:List Nd) (G:Int) (vs:List Int):Rho:=iP vs (Nq bs nds G) (fun zw=>nds) fun zw=>aI (ad nds) G
section
variable {w:World} {A:Around} {gs:Array GenState} {dr:Drawn} {os:OsState} {G:Gr} {F:List Addr} {bs:List Int} {nds:List Nd} {env:Env} {h:Heap} {n:Nat} {as:List Addr}
theorem Drawn'.fit (D:Drawn' w G F bs nds):(ad nds).fit 9:=by
 have key:∀{Us:List Value} {nds:List Nd},All2 (fun V nd=>∃b,V = .ref b/\bP G F b nd/\nd.ok/\nd.bd/\nd.k≠.pck) Us nds->∀nd∈nds,nd.bd/\nd.k≠.pck:=by
  intro Us nds x
  induction x with
  | nil=>intro nd m; cases m
  | cons p _ ih =>
   intro nd m
   cases m with
   | head=>obtain ⟨b,_,_,_,q⟩:=p; exact q
   | tail _ m=>exact ih nd m
 obtain ⟨f1,f2,f3,f4⟩:=jr (key D.it)
 have:=D.hi
 exact ⟨f1,f2,by (first | lia | omega),fun x m=>by have:=f4 x m; (first | lia | omega)⟩
theorem Tot.fit.up {t:Tot} {m k:Nat} (f:t.fit m) (h:m<=k):t.fit k:=by
 apply bc;intro ng
 obtain ⟨f1,f2,f3,f4⟩:=f
 apply ng;clear ng
 exact ⟨f1,f2,by (first | lia | omega),fun x m=>by have:=f4 x m; (first | lia | omega)⟩
theorem Drawn'.len (D:Drawn' w G F bs nds):bs.length=nds.length:=by
 have:=D.it.len'
 rwa [List.length_map] at this
theorem Drawn'.law (D:Drawn' w G F bs nds) {gap:Int} (hg : -9830400<=gap/\gap<=9830400) {vs:List Int}:LawE w G F (bl bs nds gap vs) [1] (fun zw=>nds) fun zw=>aI (ad nds) gap:=by
 have one:∀k∈[1],k=1:=fun k m=>List.mem_singleton.mp m
 refine hQ D.fo (fun k m=>?_) (fun k m=>D.fit.up (by (first | decide | lia | omega))) (fun k m=>by have:=D.hi; (first | decide | lia | omega)) (fun k m=>cH D.fit (by (first | decide | lia | omega)) (by (first | decide | lia | omega))) fun k m=>?_
 ·refine aa (one k m) ?_; exact D.it.mono fun zw zw ⟨b,e,a,b1,_⟩=>⟨b,e,a,b1⟩
 ·rw [one k m,cj]; rfl
theorem xT {x:Int} {P:Prop} (h:0<=x/\x < 4) (h0:¬x=0) (h1:¬x=1) (h2:¬x=2) (h3:¬x=3):P:=by exfalso; (first | lia | omega)
theorem Hr {x c md:Int} (hc:0<=c/\c<=200) (hb:bs.length<=9) {G0:Int}:za.den (bl bs nds G0 (bS x c md 0 0 0 0 0 0 [])) (bl bs nds G0 (bS (bY (bY (bY (bY x c 60) (c + 1) 60) (c + 1 + 1) 300) (c + 1 + 1 + 1) 4) (c + 1 + 1 + 1 + 1) md (ad nds).n (q7 x c) 0 0 0 0 [])):=by
 have e113:(ad nds).n + 0=(ad nds).n:=Int.add_zero _
 have h4:=bC (a:=bY (bY (bY x c 60) (c + 1) 60) (c + 1 + 1) 300) (c:=c + 1 + 1 + 1) (m:=4) (by (first | lia | omega))
 refine ⟨by show bs.length + 0<=1000; (first | lia | omega),by show (0:Int)<=c; (first | lia | omega),by show c < 1000000; (first | lia | omega),by show (0:Int)<=c + 1; (first | lia | omega),by show c + 1 < 1000000; (first | lia | omega),by show (0:Int)<=c + 1 + 1; (first | lia | omega),by show c + 1 + 1 < 1000000; (first | lia | omega),by show (0:Int)<=c + 1 + 1 + 1; (first | lia | omega),by show c + 1 + 1 + 1 < 1000000; (first | lia | omega),fun h3=>⟨rfl,rfl,rfl,(if_pos h3).symm,e113,rfl⟩,fun h3=>⟨fun h2=>⟨rfl,rfl,rfl,((if_neg h3).trans (if_pos h2)).symm,e113,rfl⟩,fun h2=>⟨fun h1=>⟨rfl,rfl,rfl,((if_neg h3).trans ((if_neg h2).trans (if_pos h1))).symm,e113,rfl⟩,fun h1=>⟨fun h0=>⟨rfl,rfl,rfl,((if_neg h3).trans ((if_neg h2).trans (if_neg h1))).symm,e113,rfl⟩,fun h0=>?_⟩⟩⟩⟩
 clear e113
 have h0:¬_=(0:Int):=h0; have h1:¬_=(1:Int):=h1; have h2:¬_=(2:Int):=h2; have h3:¬_=(3:Int):=h3
 exact xT h4 h0 h1 h2 h3
end
section
variable {w:World} {A:Around} {gs:Array GenState} {dr:Drawn} {os:OsState} {G:Gr} {F:List Addr} {bs:List Int} {nds:List Nd} {env:Env} {h:Heap} {n:Nat} {as:List Addr}
theorem IB {x c md gap:Int} (hm:md=0\/md=1) (hb:bs.length<=9) (hg : -9830400<=gap/\gap<=9830400) (ht : -72<=(ad nds).n/\(ad nds).n<=35100000):zi.den (bl bs nds gap (bS x c md (ad nds).n gap 0 0 0 0 [])) (bl bs nds gap (bS x c md (ad nds).n gap 0 0 0 0 (PV nds gap))):=by
 have w1:bK (ad nds) 0 ((ad nds).n + gap)=bK (ad nds) 1 gap:=by unfold bK; rw [if_pos rfl,if_neg (by decide)]
 have eg:bK (ad nds) 1 gap - (ad nds).n=gap:=by unfold bK; rw [if_neg (by decide),Int.add_comm,Int.add_sub_cancel]
 have K:Cf (bl bs nds gap (bS x c md (ad nds).n gap 0 0 0 0 [])) (bl bs nds gap (bS x c md (ad nds).n gap 0 0 0 0 (PV nds gap))) (1:Nat):=by
  have g:∀i,bg (ad nds) gap i=bg (ad nds) (bK (ad nds) 1 gap - (ad nds).n) i:=fun i=>by exact aa eg rfl
  exact ⟨g 12,g 13,g 14,g 15⟩
 have S:∀{m e:IE},bK (ad nds) (m.den (bl bs nds gap (bS x c md (ad nds).n gap 0 0 0 0 []))) (e.den (bl bs nds gap (bS x c md (ad nds).n gap 0 0 0 0 [])))=bK (ad nds) 1 gap->jw (bl bs nds gap (bS x c md (ad nds).n gap 0 0 0 0 [])) (bl bs nds gap (bS x c md (ad nds).n gap 0 0 0 0 (PV nds gap))) (1:Nat) m e:=fun h j hj=>(ur (k:=1) rfl rfl h j hj).trans (fE j).symm
 have bb:=B6 hg ht
 have hl:bs.length + 0<=1000:=Nat.le_trans hb (by decide)
 induction hm with
 | inl h =>
  subst h
  exact ⟨hl,fun z=>absurd (show (0:Int)=1 from z) (by decide),fun zw=>rZ (.inl rfl) (.inr rfl) bb.2 bb.1 (S w1) (S rfl) K hl rfl rfl rfl rfl rfl rfl rfl⟩
 | inr h =>
  subst h
  exact ⟨hl,fun zw=>rZ (.inr rfl) (.inl rfl) bb.1 bb.2 (S rfl) (S w1) K hl rfl rfl rfl rfl rfl rfl rfl,fun z=>absurd rfl z⟩
theorem qD (P:Params):(dU P).drop 4=jk P 4 2++(jk P 6 3++(dU P).drop 9):=by kernel_rfl
theorem Ge {ns:List Int} {x c:Int} (HB0:HB w (OG w G)) (S:SR w (xA ns x c bs) (OG w G) G env h jc as) (D:Drawn' w G F bs nds) (hc:0<=c/\c<=200) (esc:env.scope=eY w.params) (R:Room A 200) {Q:Flow->Shared->Prop} {E:Value->Shared->Prop}
  (q:∀gap x c h' n' as',SR w (bl bs nds gap (bS x c (kG ns) (ad nds).n gap 0 0 0 0 (PV nds gap))) (OG w G) G env h' mc as'->(-9830400<=gap/\gap<=9830400)->0<=c/\c<=300->wpAny (model pr w) A (execs ((dU w.params).drop 9) env) Q E ⟨h',gs,dr,n',os⟩) :
  wpAny (model pr w) A (execs ((dU w.params).drop 4) env) Q E ⟨h,gs,dr,n,os⟩:=by
 have hg:=vn x c
 have hl:=D.len
 have hi:=D.hi
 have HW:∀{vs},H2 w (bl bs nds (q7 x c) vs) (OG w G) (uO [1]) 81:=⟨HB0,by (first | decide | lia | omega),nF (D.law hg)⟩
 have S0:=S.re (ρ':=bl bs nds (q7 x c) (bS x c (kG ns) 0 0 0 0 0 0 [])) (s':=AK) [1,2,3,4,5,6,13] EM ⟨rfl,rfl,rfl,rfl⟩
 rw [qD]
 refine aH (iT HW esc (A3 w.params) (R.le (by (first | decide | lia | omega))) S0 (Hr hc (by (first | decide | lia | omega))) fun h1 as1 n1 S1 p1=>?_)
 refine aH (iT HW esc (Aq w.params) (R.le (by (first | decide | lia | omega))) S1 (IB (kj ns) (by (first | decide | lia | omega)) hg (by have:=D.fit.n; (first | decide | lia | omega))) fun h2 as2 n2 S2 p2=>?_)
 exact q _ _ _ h2 n2 _ S2 hg (by (first | decide | lia | omega))
end
noncomputable def KN:Expr->List Expr | .BoolOp _ l _=>l | _=>[]
noncomputable def Mx:Expr->Pos | .BoolOp _ _ p=>p | e=>e.pos
noncomputable def L2:Expr->Pos | .Compare _ _ _ p=>p | e=>e.pos
noncomputable def yW (P:Params):Stmt:=(dU P).getD 9 (.Pass default)
noncomputable def Hj (P:Params):Expr:=(KN (cg (yW P))).getD 0 (cg (yW P))
noncomputable def yV (P:Params):Expr:=HM (Hj P)
noncomputable def ri (P:Params):Expr:=FZ (Hj P)
noncomputable def NJ (P:Params):Expr:=.BoolOp .Or ((KN (cg (yW P))).drop 1) (Mx (cg (yW P)))
theorem xY (P:Params):(dU P).drop 9 = .If (.BoolOp .Or (.Compare (.Call (.Name (bh (ax (yV P))) (aR (ax (yV P)))) [bq (yV P)] [] (cf (yV P))) [.NotEq] [.Call (.Name (bh (ax (ri P))) (aR (ax (ri P)))) [bq (ri P)] [] (cf (ri P))] (L2 (Hj P))::(KN (cg (yW P))).drop 1) (Mx (cg (yW P)))) (ug (yW P)) [] (rd (yW P))::(dU P).drop 10:=by kernel_rfl
noncomputable def k7:List Nat:=[0,1,2,3,4,5,6]
noncomputable def lB:List AO:=[.cell (some (.loc 5)),.cell none,.cell none,.cell (some (.loc 14)),.cell none,.lst [.int (.v 1),.int (.v 2)],.rf 1,.fz (.rf 1)]++(r6 7 8++[lF 8 11,AO.il 201 []]++[AO.rf 1]++r6 15 16:List AO).map AO.fz
theorem Ew:gX k7 0 Bj=lB:=by kernel_rfl
noncomputable def bU:St:=⟨[(S' "twin",.loc 20),(S' "told",.loc 13),(S' "packed",.loc 12)]++GJ,rj,lB,[]⟩
theorem IA (P:Params):bA P aA 12 (eY P) (.Name (bh (ax (yV P))) (aR (ax (yV P)))) bU = .leaf (.rt (.glb (.ref 545))) bU/\bA P aA 12 (eY P) (.Name (bh (ax (ri P))) (aR (ax (ri P)))) bU = .leaf (.rt (.glb (.ref 545))) bU:=⟨by kernel_rfl,by kernel_rfl⟩
noncomputable def k1 (vs:List AV) (s:St):Tr:=match vs with | [v1]=>.leaf (.rt v1) s | _=>.fail
theorem sH {ρ:Rho} {vs:List AV} {s s0:St} {u1:AV} (y:(k1 vs s).ok ρ fun f s'=>f = .rt u1/\s'=s0):vs = [u1]/\s=s0:=by
 induction vs using List.casesOn with
 | nil=>exact y.elim
 | cons v1 vs=>induction vs using List.casesOn with
  | cons v2 vs=>exact y.elim
  | nil=>refine aa (show v1=u1 from Fl.rt.inj y.1) ?_; exact ⟨rfl,y.2⟩
theorem FX (P:Params) (k:List AV->St->Tr):mP (fS P aA 12) (eY P) [bq (yV P)] bU k=k [.loc 18] bU/\mP (fS P aA 12) (eY P) [bq (ri P)] bU k=k [.loc 10] bU:=⟨by kernel_rfl,by kernel_rfl⟩
theorem JB (P:Params):([bq (yV P)].all fun e=>!aK e)=true/\([bq (ri P)].all fun e=>!aK e)=true/\behindInMarks .NotEq (.Call (.Name (bh (ax (ri P))) (aR (ax (ri P)))) [bq (ri P)] [] (cf (ri P)))=false:=⟨by kernel_rfl,by kernel_rfl,rfl⟩
theorem Km (P:Params):lG P aA 20 (eY P) (NJ P) bU = .req (.eq (.v 38) (.v 38)) (.req (.eq (.v 39) (.v 39)) (.br (.eq (.v 33) (.add (.v 5) (.v 6))) (.leaf (.rt (.bool false)) bU) (.leaf (.rt (.bool true)) bU))):=by kernel_rfl
noncomputable def tz (i n x:Nat):Option Nat:=if x=n then some 0 else if x=n + 1 then some 1 else if x=n + 2 then some 2 else if x=i then some 3 else none
noncomputable def uV (i n:Nat):AO:=.ns [(S' "ratio",.loc n),(S' "order",pv 15),(S' "sign",pv 14),(S' "shift",.int (.c 0)),(S' "items",.loc i),(S' "depth",pv 1),(S' "height",pv 0),(S' "width",pv 13),(S' "kind",.int (.c 2))]
noncomputable def uL:AO:=.ns [(S' "ratio",.loc 0),(S' "order",.int (.v 5)),(S' "sign",.int (.v 4)),(S' "shift",.int (.v 3)),(S' "items",.loc 3),(S' "depth",.int (.v 2)),(S' "height",.int (.v 1)),(S' "width",.int (.v 0)),(S' "kind",.int (.c 2))]
noncomputable def kT:List Ob1:=[.ie (.v 36) (.v 6),.ie (.v 37) (.v 7)]
noncomputable def lO:List Ob1:=[.ie (.v 35) (.v 5),.ie (.v 34) (.v 4),.ie (.c 0) (.v 3),.ie (.v 21) (.v 2),.ie (.v 20) (.v 1),.ie (.v 33) (.v 0),.ie (.c 2) (.c 2)]
theorem z9:fG (tz 7 8) (.tup [pv 16,pv 17]) (.tup [.int (.v 6),.int (.v 7)])=some kT/\fG (tz 7 8) (uV 7 8) uL=some lO/\fG (tz 7 8) (.inst 389 9) (.inst 389 1)=some []:=⟨by kernel_rfl,by kernel_rfl,by kernel_rfl⟩
theorem BH:fG (tz 15 16) (.tup [pv 16,pv 17]) (.tup [.int (.v 6),.int (.v 7)])=some kT/\fG (tz 15 16) (uV 15 16) uL=some lO/\fG (tz 15 16) (.inst 389 17) (.inst 389 1)=some []:=⟨by kernel_rfl,by kernel_rfl,by kernel_rfl⟩
noncomputable def wr:List AO:=[.cell (some (.loc 5)),.cell none,.cell none,.cell (some (.loc 10)),.cell none,.lst [.int (.v 1),.int (.v 2)],.rf 1,.fz (.tup [pv 16,pv 17]),.fz (.tup [pv 18,pv 19]),.fz (lF 7 8),.fz (.il 201 [])]
noncomputable def gP:St:=⟨(S' "told",.loc 9)::GJ,rj,wr,[]⟩
noncomputable def wj:List Ob1:=[.ie (.v 1) (.v 1),.ie (.v 2) (.v 2),.rf 1 1,.ie (.v 36) (.v 36),.ie (.v 37) (.v 37),.ie (.v 38) (.v 38),.ie (.v 39) (.v 39),.ie (.c 2) (.c 2),.ie (.v 33) (.v 33),.ie (.v 20) (.v 20),.ie (.v 21) (.v 21),.ie (.c 0) (.c 0),.ie (.v 34) (.v 34),.ie (.v 35) (.v 35),.il 201 [] 201 [],.ie (.v 6) (.v 6),.ie (.v 5) (.v 5),.ie (.v 3) (.v 3)]
theorem EG:gX k7 0 wr=wr:=by kernel_rfl
theorem Gm:aM [0,1,2,3,4,5,6,8,11,13,14] bU gP=some wj:=by kernel_rfl
section
variable {w:World} {A:Around} {gs:Array GenState} {dr:Drawn} {os:OsState} {G:Gr} {F:List Addr} {bs:List Int} {nds:List Nd} {env:Env} {h:Heap} {n:Nat} {as:List Addr}
theorem uq {ρ:Rho} {g:Gr} {s:St} {i n:Nat} {vs:List Int} (S:SR w ρ (OG w g) G env h s as) (e0:s.ob[n]? = some (.fz (.tup [pv 16,pv 17]))) (e1:s.ob[n + 1]? = some (.fz (uV i n))) (e2:s.ob[n + 2]? = some (.fz (.inst 389 (n + 1))))
  (rn:fG (tz i n) (.tup [pv 16,pv 17]) (.tup [.int (.v 6),.int (.v 7)])=some kT/\fG (tz i n) (uV i n) uL=some lO/\fG (tz i n) (.inst 389 (n + 1)) (.inst 389 1)=some []) (o1:bD ρ (bu vs) kT) (o2:bD ρ (bu vs) lO) {a:Addr} (ea:as[i]? = some a):∃b,as[n + 2]? = some b/\zA h.get? b a vs:=by
 apply bc;intro ng
 obtain ⟨a0,f0,x0,-⟩:=S.get e0
 obtain ⟨a1,f1,x1,-⟩:=S.get e1
 obtain ⟨a2,f2,x2,-⟩:=S.get e2
 apply ng;clear ng
 have hm:Mp (tz i n) as [a0,a1,a2,a]:=by
  intro x y ex b eb
  unfold tz at ex
  split at ex
  ·rename_i z; subst z; cases ex; rw [f0] at eb; exact eb
  ·split at ex
   ·rename_i z; subst z; cases ex; rw [f1] at eb; exact eb
   ·split at ex
    ·rename_i z; subst z; cases ex; rw [f2] at eb; exact eb
    ·split at ex
     ·rename_i z; subst z; cases ex; rw [ea] at eb; exact eb
     ·exact ap ex
 have y0:=bI (ρ:=ρ) (ρ':=bu vs) hm rn.1 o1 x0
 have y1:=bI (ρ:=ρ) (ρ':=bu vs) hm rn.2.1 o2 x1
 have y2:=bI (ρ:=ρ) (ρ':=bu vs) (o:=.inst 389 (n + 1)) hm rn.2.2 trivial x2
 have kk:∀a x,g a=some x->h.get? a=some x:=fun a x e=>S.kp _ _ (S.og _ _ e)
 exact ⟨a2,f2,a0,a1,.cons (y0.keep .refl fun x e=>kk _ _ e) (.cons (y1.keep .refl fun x e=>kk _ _ e) (.cons (y2.keep .refl fun x e=>kk _ _ e) .nil))⟩
theorem DS {ts:List PT} {d:Nat} {V U:Value} {Er:Value->Shared->Prop} {Q:Value->Shared->Prop} (hu:A.units + (d + 2) < cLine) (x:jd h.get? (d + 1) (.tup ts) V) (y:jd h.get? (d + 1) (.tup ts) U) (q:Q (.bool false) ⟨h,gs,dr,n,os⟩) :
  wpAny (model pr w) A (compareOp .NotEq V U) Q Er ⟨h,gs,dr,n,os⟩:=by
 apply bc;intro ng
 obtain ⟨a,Vs,rfl,z1,x⟩:=x; obtain ⟨b,Us,rfl,z2,y⟩:=y
 apply ng;clear ng
 have lx:=x.len; have ly:=y.len
 refine pg (op:=.NotEq) (.inr rfl) (by (first | lia | omega)) z1 z2 (by (first | lia | omega)) (fun j h1 h2=>?_) q
 apply bc;intro ng
 obtain ⟨v,w1,w2⟩:=x.rget (List.getElem?_eq_getElem h1)
 obtain ⟨u,w3,w4⟩:=y.rget (List.getElem?_eq_getElem h2)
 apply ng;clear ng
 rw [w1] at w3; cases w3
 exact jd.eq (A:=A.in1) (by show A.units + 1 + d < _; (first | lia | omega)) w2 w4
theorem Drawn'.le {G':Gr} (D:Drawn' w G F bs nds) (k:be G G'):Drawn' w G' F bs nds:=⟨D.fo.le k,D.it.mono fun zw zw ⟨b,e,n1,n2⟩=>⟨b,e,n1.le k,n2⟩,D.lo,D.hi⟩
theorem BI:∀(i:Nat) o,lB[i]? = some o->o.own=true->(∃v,o = .cell v)\/(∃vs,o = .lst vs)\/∃b,o = .rf b:=by
 have key:∀o∈lB,o.own=true->(∃v,o = .cell v)\/(∃vs,o = .lst vs)\/∃b,o = .rf b:=by
  intro o m ow
  simp only [lB,r6,List.map_cons,List.map_nil,List.cons_append,List.nil_append,List.mem_cons,List.not_mem_nil,or_false] at m
  rcases m with rfl | rfl | rfl | rfl | rfl | rfl | rfl | m
  ·exact .inl ⟨_,rfl⟩
  ·exact .inl ⟨_,rfl⟩
  ·exact .inl ⟨_,rfl⟩
  ·exact .inl ⟨_,rfl⟩
  ·exact .inl ⟨_,rfl⟩
  ·exact .inr (.inl ⟨_,rfl⟩)
  ·exact .inr (.inr ⟨_,rfl⟩)
  ·exfalso
   rcases m with rfl | rfl | rfl | rfl | rfl | rfl | rfl | rfl | rfl | rfl | rfl | rfl | rfl | rfl <;> exact bG ow
 exact fun i o e=>key o (List.mem_of_getElem? e)
theorem uB {ρ:Rho} {O:Opq} {s:St} (S:SR w ρ O G env h s as) (own:∀(i:Nat) o,s.ob[i]? = some o->o.own=true->(∃v,o = .cell v)\/(∃vs,o = .lst vs)\/∃b,o = .rf b) {b:Addr} {Us:List Value} (x:At h.get? b (.tup Us)):At (dB h env.locals s.ob as) b (.tup Us):=by
 apply bc;intro ng
 obtain ⟨o,e1,e2,m,e3⟩:=x
 apply ng;clear ng
 refine ⟨o,?_,e2,m,e3⟩
 have nl:∀{y:Obj},h.get? b=some y->y.cls≠.type "list":=fun e q=>by
  rw [e1] at e; cases e
  rw [q] at e2
  have e2:Value.type "list" = .type "tuple":=e2
  injection e2 with z; exact absurd z (by decide)
 unfold dB
 rw [if_neg]
 ·exact e1
 ·rintro (q | q)
  ·obtain ⟨fn,⟨oL,es,ep,l2,l3⟩,_⟩:=S.lc
   rw [<- q,e1] at l2; cases l2
   rw [e3] at l3; cases l3.1
  ·obtain ⟨j,oj,z1,z2,z3⟩:=dA.mp q
   have z:=(S.ob j oj b z1 z3).1
   rcases own j oj z1 z2 with ⟨v,rfl⟩ | ⟨vs,rfl⟩ | ⟨c,rfl⟩
   ·obtain ⟨V,-,ov,q1,q2⟩:=z
    rw [e1] at q1; cases q1
    have q2:o.data = .cell V:=q2
    rw [e3] at q2; cases q2
   ·obtain ⟨Vs,-,ov,q1,q2,_⟩:=z
    exact nl q1 q2
   ·obtain ⟨ov,q1,m2,q2⟩:=z
    exact nl q1 (by exact aa q2 rfl)
set_option tactic.hygienic true
theorem C4 {vs:List Int} {gap:Int} (HB0:HB w (OG w G)) (S:SR w (bl bs nds gap vs) (OG w G) G env h mc as) (D:Drawn' w G F bs nds) (hw:(bl bs nds gap vs).v 33=(bl bs nds gap vs).v 5 + (bl bs nds gap vs).v 6) (esc:env.scope=eY w.params) (R:Room A 200) {Q:Flow->Shared->Prop} {E:Value->Shared->Prop}
  (q:∀G' h' n' as',be G G'->HB w (OG w G')->SR w (bl bs nds gap vs) (OG w G') G' env h' gP as'->Drawn' w G' F bs nds->wpAny (model pr w) A (execs ((dU w.params).drop 10) env) Q E ⟨h',gs,dr,n',os⟩) :
  wpAny (model pr w) A (execs ((dU w.params).drop 9) env) Q E ⟨h,gs,dr,n,os⟩:=by
 have S':=S.grow k7
 have gl:=S.growLe k7
 have gl0:be G (mu h env.locals (k7.filterMap (bX mc.ob as))):=gl
 have e1:({ mc with ob:=gX k7 0 mc.ob }:St)=bU:=by
  show ({ mc with ob:=gX k7 0 Bj }:St)=bU
  refine aa Ew ?_; rfl
 rw [e1] at S'
 generalize mu h env.locals (k7.filterMap (bX mc.ob as))=G2 at S' gl gl0
 have D:=D.le gl
 have HB0:HB w (OG w G2):=let ⟨hb,W,kb⟩:=HB0; ⟨hb,W,fun a o e=>gl a o (kb a o e)⟩
 clear S gl e1
 have HH:∀{ρ:Rho},H2 w ρ (OG w G2) aA 2:=H2.no HB0
 have RR:Room A (12 + 2):=R.le (by (first | decide | lia | omega))
 apply bc;intro ng
 obtain ⟨n1,n2⟩:=IA w.params
 obtain ⟨t1,t2,t3⟩:=JB w.params
 have itm:All2 (fun V nd=>∃x,V = .ref x/\bP G2 F x nd/\nd.ok) (bs.map ak) nds:=D.it.mono fun zw zw ⟨b,e,a,b1,_⟩=>⟨b,e,a,b1⟩
 have np:∀nd∈nds,nd.k≠.pck:=fun nd m=>by
  obtain ⟨i,ei⟩:=List.mem_iff_getElem?.mp m
  obtain ⟨V,_,b,_,_,_,_,z⟩:=D.it.rget ei
  exact z
 have hz:(bs.map ak).length<=1000:=by rw [List.length_map,D.len]; have:=D.hi; (first | decide | lia | omega)
 obtain ⟨vE,o1,o2⟩:∃vE,bD (bl bs nds gap vs) (bu vE) kT/\bD (bl bs nds gap vs) (bu vE) lO :=
  ⟨[(bl bs nds gap vs).v 33,(bl bs nds gap vs).v 20,(bl bs nds gap vs).v 21,0,(bl bs nds gap vs).v 34,(bl bs nds gap vs).v 35,(bl bs nds gap vs).v 36,(bl bs nds gap vs).v 37],⟨rfl,rfl⟩,⟨rfl,rfl,rfl,rfl,rfl,rfl,rfl⟩⟩
 apply ng;clear ng
 have hl1:(bl bs nds gap vs).l 1=bs:=rfl
 have a3o:bD (bl bs nds gap vs) (bl bs nds gap vs) wj:=⟨rfl,rfl,rfl,rfl,rfl,rfl,rfl,rfl,rfl,rfl,rfl,rfl,rfl,rfl,rfl,rfl,rfl,rfl⟩
 generalize bl bs nds gap vs=ρ at S' q hw o1 o2 hl1 a3o
 rw [xY]
 refine wpAny_execs_cons (wpAny_If (isTrue_or (wpAny_isTrue_Compare1 (ju (Bn w.params) t1 (oy HH esc n1 RR S' fun V h1 as1 n1' S1 p1 dv=>⟨dv,?_⟩)) t3)))
 refine cR (post:=fun f s=>f = .rt (.loc 18)/\s=bU) (k:=k1) (HH.run 12) RR (by refine aa esc ?_; exact (congrArg (fun t=>Tr.ok _ _ t) (FX w.params k1).1).mpr ⟨rfl,rfl⟩) S1 fun vs1 Ws s2 h2 as2 n2' y2 S2 p2 dvs hws=>⟨S2.k,?_⟩
 clear hws
 apply bc;intro ng
 obtain ⟨rfl,rfl⟩:=sH (s0:=bU) y2
 apply ng;clear ng
 cases dvs; rename_i d1 dvs; cases dvs
 apply bc;intro ng
 obtain ⟨b,eb,rfl⟩:=d1
 obtain ⟨a,ea,xa,-⟩:=S2.get (i:=15) (o:=.fz (.rf 1)) rfl
 obtain ⟨b',eb',Bx⟩:=uq S2 (i:=15) (n:=16) rfl rfl rfl BH o1 o2 ea
 apply ng;clear ng
 rw [show as2[18]? = some b' from eb'] at eb; cases eb
 have xa:At G2 a (.pl ((ρ.l 1).map ak)):=xa
 rw [hl1] at xa
 refine kX S2.wd S2.kp D.fo (At.pl (xa.le (S2.kp _))) itm np hz Bx (R.le (by (first | decide | lia | omega))) fun V1 h3 n3 k3 tr1=>?_
 have S3:=S2.stay k3
 apply bc;intro ng
 obtain ⟨S3w,le3⟩:=S3.wide
 apply ng;clear ng
 have tr1:jd (dB h3 env.locals bU.ob as2) 8 (zD w.params vE nds) V1:=tr1.mono (Nat.le_refl _) fun b Us z=>uB S3 BI z
 generalize dB h3 env.locals bU.ob as2=GW at S3w le3 tr1
 refine ju (Bn w.params) t2 (oy HH esc n2 RR S3w fun V h4 as4 n4 S4 p4 dv=>⟨dv,?_⟩)
 refine cR (post:=fun f s=>f = .rt (.loc 10)/\s=bU) (k:=k1) (HH.run 12) RR (by refine aa esc ?_; exact (congrArg (fun t=>Tr.ok _ _ t) (FX w.params k1).2).mpr ⟨rfl,rfl⟩) S4 fun vs2 Ws s5 h5 as5 n5 y5 S5 p5 dvs hws=>⟨S5.k,?_⟩
 clear hws
 apply bc;intro ng
 obtain ⟨rfl,rfl⟩:=sH (s0:=bU) y5
 apply ng;clear ng
 cases dvs; rename_i d1 dvs; cases dvs
 apply bc;intro ng
 obtain ⟨b2,eb2,rfl⟩:=d1
 obtain ⟨a2,ea2,xa2,-⟩:=S5.get (i:=7) (o:=.fz (.rf 1)) rfl
 obtain ⟨b2',eb2',Bx2⟩:=uq (G:=GW) (g:=G2) S5 (i:=7) (n:=8) rfl rfl rfl z9 o1 o2 ea2
 apply ng;clear ng
 rw [show as5[10]? = some b2' from eb2'] at eb2; cases eb2
 have xa2:At G2 a2 (.pl ((ρ.l 1).map ak)):=xa2
 rw [hl1] at xa2
 have kg5:be G2 h5.get?:=fun b o e=>S5.kp _ _ (le3 _ _ e)
 refine kX S5.wd kg5 D.fo (At.pl (xa2.le (kg5 _))) itm np hz Bx2 (R.le (by (first | decide | lia | omega))) fun V2 h6 n6 k6 tr2=>?_
 have S6:=S5.stay k6
 have tr1:=tr1.mono (g':=h6.get?) (Nat.le_refl _) fun b Us z=>z.le (S6.kp _)
 refine DS (d:=7) (by have:=R.un; (first | decide | lia | omega)) tr1 tr2 (wpAny_truthy_bool ?_)
 refine rX HH esc (Km w.params) (R.le (by (first | decide | lia | omega))) S6 (fun z=>by exact bG z) ?_
 refine ⟨rfl,rfl,fun hE=>fun c h7 as7 n7 ec S7 p7=>?_,fun hE=>absurd hw hE⟩
 apply bc;intro ng
 cases ec
 apply ng;clear ng
 refine wpAny_execs_nil ?_
 have S8:=S7.re (ρ':=ρ) [0,1,2,3,4,5,6,8,11,13,14] Gm a3o
 generalize ([0,1,2,3,4,5,6,8,11,13,14].map fun j=>as7.getD j 0)=as8 at S8
 have S9:=S8.grow k7
 have gl:=S8.growLe k7
 have e3:({ gP with ob:=gX k7 0 gP.ob }:St)=gP:=by
  show ({ gP with ob:=gX k7 0 wr }:St)=gP
  refine aa EG ?_; rfl
 rw [e3] at S9
 have l3:be G2 (mu h7 env.locals (k7.filterMap (bX gP.ob as8))):=fun a o e=>gl a o (le3 a o e)
 exact q _ h7 n7 as8 (fun a o e=>l3 a o (gl0 a o e)) (let ⟨hb,W,kb⟩:=HB0; ⟨hb,W,fun a o e=>l3 a o (kb a o e)⟩) S9 (D.le l3)
set_option tactic.hygienic false
end
noncomputable def MM:Hk:=CI (MJ 1 2 11 12) (CI (Mk 11 12 8 9) (uO [1,2,13]))
noncomputable def wv (j:Nat):AV:=.int (.fn (100 + j) (.c 13) (.c 1) (.c 0))
noncomputable def GG:List (Str×AV):=[(S' "gap",.int (.v 6)),(S' "own",.int (.v 5)),(S' "items",.loc 5),(S' "mode",.int (.v 3))]
noncomputable def BD:List AO:=[.cell none,.cell none,.cell none,.cell (some (.loc 9)),.cell (some (.int (.v 8))),.rf 1,.fz (.tup [pv 16,pv 17]),.fz (.tup [pv 18,pv 19]),.fz (lF 6 7),.fz (.il 201 []),.rf 13,.tup [wv 16,wv 17],
 .ns [(S' "ratio",.loc 11),(S' "order",wv 15),(S' "sign",wv 14),(S' "shift",.int (.c 0)),(S' "items",.loc 10),(S' "depth",wv 1),(S' "height",wv 0),(S' "width",wv 13),(S' "kind",.int (.c 2))],.inst 389 12]
noncomputable def tC:St:=⟨[(S' "within",.loc 13),(S' "end",.int (.v 9)),(S' "told",.loc 8)]++GG,rj,BD,[]⟩
noncomputable def Fj (P:Params):VC:=(cx P MM 30 (eY P) (jk P 10 4) gP).vc [0,1,2,3,4,6,7,8,9,10,19,20,21,22] .nx tC
noncomputable def IL (e:IE):VC:=Cq (.v 3) e (GA 2 (.v 3) e (.req (.le (.c 0) (.v 12)) (.req (.le (.v 12) (.c 990000)) (.req (.isl 13 1 (some (.v 8)) (some (.v 9))) (.ok [.ie (.v 8) (.v 8),.rf 1 1,.ie (.v 36) (.v 36),.ie (.v 37) (.v 37),.ie (.v 38) (.v 38),.ie (.v 39) (.v 39),.ie (.c 2) (.c 2),.ie (.v 33) (.v 33),.ie (.v 20) (.v 20),.ie (.v 21) (.v 21),.ie (.c 0) (.c 0),.ie (.v 34) (.v 34),.ie (.v 35) (.v 35),.il 201 [] 201 [],.rf 13 13,.ie (fK 116 13 (.c 1) (.c 0)) (fK 116 13 (.c 1) (.c 0)),.ie (fK 117 13 (.c 1) (.c 0)) (fK 117 13 (.c 1) (.c 0)),.ie (fK 115 13 (.c 1) (.c 0)) (fK 115 13 (.c 1) (.c 0)),.ie (fK 114 13 (.c 1) (.c 0)) (fK 114 13 (.c 1) (.c 0)),.ie (.c 0) (.c 0),.ie (fK 101 13 (.c 1) (.c 0)) (fK 101 13 (.c 1) (.c 0)),.ie (fK 100 13 (.c 1) (.c 0)) (fK 100 13 (.c 1) (.c 0)),.ie (fK 113 13 (.c 1) (.c 0)) (fK 113 13 (.c 1) (.c 0)),.ie (.c 2) (.c 2),.ie (.v 9) (.v 9),.ie (.v 6) (.v 6),.ie (.v 5) (.v 5),.ie (.v 3) (.v 3)])))))
noncomputable def yM:VC:=.req (.le (.c 0) (.v 2)) (.req (.le (.v 2) (.c 990000)) (.br (.eq (.v 3) (.c 1)) (IL (.v 6)) (IL eG)))
theorem AB (P:Params):Fj P=yM:=by kernel_rfl
theorem qM {R:Value->Nd->Prop} {l1 l2:List Int} (p:l1.Perm l2):∀{nds:List Nd},All2 R (l2.map ak) nds->∃nds2:List Nd,nds2.Perm nds/\All2 R (l1.map ak) nds2:=by
 induction p with
 | nil=>intro nds x; cases x; exact ⟨[],.nil,.nil⟩
 | cons a p ih =>
  intro nds x
  cases x with
  | cons y x=>obtain ⟨n2,p2,x2⟩:=ih x; exact ⟨_,p2.cons _,.cons y x2⟩
 | swap a b l =>
  intro nds x
  cases x with
  | cons y x=>cases x with | cons z x=>exact ⟨_,.swap _ _ _,.cons z (.cons y x)⟩
 | trans p q ih1 ih2 =>
  intro nds x
  apply bc;intro ng
  obtain ⟨n2,p2,x2⟩:=ih2 x
  obtain ⟨n3,p3,x3⟩:=ih1 x2
  apply ng;clear ng
  exact ⟨n3,p3.trans p2,x3⟩
structure RunD (nds:List Nd) (bs bs2:List Int) (nds2:List Nd) (b e:Nat):Prop where
 le:b<=e
 he:e<=nds.length
 hb:b < nds.length
 run:∀nd∈(nds.take e).drop b,nd.k.run=true
 p:nds2.Perm nds
 l2:bs2.length=bs.length
noncomputable def aF (nds:List Nd) (b e:Nat):List Nd:=(nds.take e).drop b
noncomputable def M6 (bs bs2:List Int) (nds nds2:List Nd) (gap:Int) (b e:Nat) (k:Nat):List Int :=
 if k=1 then bs else if k=2 then bs2 else if k=13 then (bs.take e).drop b else if k=201 then av (aI (ad nds) gap) nds else if k=202 then av (aI (ad nds) gap) nds2 else if k=213 then av (aI (ad (aF nds b e)) 0) (aF nds b e) else []
noncomputable def NB (nds nds2:List Nd) (b e:Nat) (k:Nat):List Nd:=if k=2 then nds2 else if k=13 then aF nds b e else nds
noncomputable def BB (nds:List Nd) (gap:Int) (b e:Nat) (k:Nat):Bx:=if k=13 then aI (ad (aF nds b e)) 0 else aI (ad nds) gap
noncomputable def cw (bs bs2:List Int) (nds nds2:List Nd) (gap:Int) (b e:Nat) (vs:List Int):Rho:=iP vs (M6 bs bs2 nds nds2 gap b e) (NB nds nds2 b e) (BB nds gap b e)
section
variable {w:World} {A:Around} {gs:Array GenState} {dr:Drawn} {os:OsState} {G:Gr} {F:List Addr} {bs bs2:List Int} {nds nds2:List Nd} {env:Env} {h:Heap} {n:Nat} {as:List Addr} {b e:Nat} {gap:Int}
def CL (G:Gr) (F:List Addr) (V:Value) (nd:Nd):Prop:=∃b,V = .ref b/\bP G F b nd/\nd.ok/\nd.bd/\nd.k≠.pck
theorem m6 {Us:List Value} {nds:List Nd} (x:All2 (CL G F) Us nds):∀nd∈nds,nd.bd/\nd.k≠.pck:=by
 induction x with
 | nil=>intro nd m; cases m
 | cons p _ ih =>
  intro nd m
  cases m with
  | head=>obtain ⟨b,_,_,_,q⟩:=p; exact q
  | tail _ m=>exact ih nd m
theorem j6 {nds:List Nd} (x:∀nd∈nds,nd.bd/\nd.k≠.pck) (hl:nds.length<=9):(ad nds).fit 9:=(jr x).up hl
theorem m3 (D:Drawn' w G F bs nds):All2 (CL G F) (((bs.take e).drop b).map ak) (aF nds b e):=by
 refine aa List.map_drop (aa List.map_take ?_)
 exact (D.it.take e).drop b
theorem Ji (D:Drawn' w G F bs nds) (hg : -9830400<=gap/\gap<=9830400) (D2:All2 (CL G F) (bs2.map ak) nds2) (p:nds2.Perm nds) {vs:List Int}:LawE w G F (cw bs bs2 nds nds2 gap b e vs) [1,2,13] (NB nds nds2 b e) (BB nds gap b e):=by
 have lo:∀{Us:List Value} {m:List Nd},All2 (CL G F) Us m->All2 (fun V nd=>∃x,V = .ref x/\bP G F x nd/\nd.ok) Us m:=fun x=>x.mono fun zw zw ⟨b,e,a,b1,_⟩=>⟨b,e,a,b1⟩
 have D3:All2 (CL G F) (((bs.take e).drop b).map ak) (aF nds b e):=m3 D
 have l3:(aF nds b e).length<=9:=by unfold aF; refine aa List.length_drop (aa List.length_take ?_); have:=D.hi; (first | decide | lia | omega)
 have l2:nds2.length<=9:=by refine aa p.length_eq ?_; exact D.hi
 have f1:=D.fit
 have f2:=j6 (m6 D2) l2
 have f3:=j6 (m6 D3) l3
 have cs:∀{P:Nat->Prop},P 1->P 2->P 13->∀k∈[1,2,13],P k:=fun a b c k m=>by
  simp only [List.mem_cons,List.not_mem_nil,or_false] at m
  rcases m with rfl | rfl | rfl <;> assumption
 exact hQ D.fo (cs (lo D.it) (lo D2) (lo D3)) (cs (f1.up (by (first | decide | lia | omega))) (f2.up (by (first | decide | lia | omega))) (f3.up (by (first | decide | lia | omega)))) (cs (by show nds.length<=_; have:=D.hi; (first | decide | lia | omega)) (by show nds2.length<=_; (first | decide | lia | omega)) (by show (aF nds b e).length<=_; (first | decide | lia | omega)))
  (cs (cH f1 (by (first | decide | lia | omega)) (by (first | decide | lia | omega))) (cH f1 (by (first | decide | lia | omega)) (by (first | decide | lia | omega))) (cH f3 (by (first | decide | lia | omega)) (by (first | decide | lia | omega)))) (cs (by rw [cj]; rfl) (by rw [cj]; rfl) (by rw [cj]; rfl))
end
structure Same (ρ:Rho) (k:Nat) (md own gap:Int):Prop where
 a1:md=1->∀j,j∈[0,1,13,14,15,16,17,18,19]->ρ.f (100 + j) k md gap=ρ.v (20 + j)
 a0:md=0->∀j,j∈[0,1,13,14,15,16,17,18,19]->ρ.f (100 + j) k md (own + gap)=ρ.v (20 + j)
theorem ka {x c md own gap b e u v:Int} {ls:Nat->List Int} {N:Nat->List Nd} {B:Nat->Bx} {nds:List Nd} {k:Nat} (ht:ad (N k)=ad nds) (hm:(N k).isEmpty=nds.isEmpty) (ho:own=(ad nds).n):Same (iP (bS x c md own gap b e u v (PV nds gap)) ls N B) k md own gap:=by
 exact ⟨fun h j hj=>(ur ht hm (by exact aa h rfl) j hj).trans (fE j).symm,fun h j hj=>(ur ht hm (by unfold bK; exact aa (if_pos h) (aa (if_neg (by decide)) (aa ho rfl))) j hj).trans (fE j).symm⟩
theorem mO {ρ ρ':Rho} {k:Nat} {md own gap:Int} {X:IE->VC} (v3:ρ.v 3=md) (v5:ρ.v 5=own) (v6:ρ.v 6=gap) (S:Same ρ k md own gap) (hm:md=0\/md=1) (hg : -9830400<=gap/\gap<=9830400) (ht : -72<=own/\own<=35100000)
  (x:∀e:IE,((IE.v 3).den ρ=0\/(IE.v 3).den ρ=1)->(-100000000<=e.den ρ/\e.den ρ<=100000000)->jw ρ ρ k (.v 3) e->(X e).den ρ ρ'):(VC.br (.eq (.v 3) (.c 1)) (X (.v 6)) (X eG)).den ρ ρ':=by
 subst v3 v5 v6
 exact ⟨fun h=>x _ hm (B6 hg ht).1 fun j hj=>S.a1 h j hj,fun h=>x _ hm (B6 hg ht).2 fun j hj=>S.a0 (hm.resolve_right h) j hj⟩
theorem I1 {ρ:Rho} {c v md own gap:Int} (v2:ρ.v 2=c) (v3:ρ.v 3=md) (v5:ρ.v 5=own) (v6:ρ.v 6=gap) (v12:ρ.v 12=v) (S:Same ρ 2 md own gap) (hm:md=0\/md=1) (hg : -9830400<=gap/\gap<=9830400) (ht : -72<=own/\own<=35100000) (hc:0<=c/\c<=300) (hv:0<=v/\v<=400) (isl:(CE.isl 13 1 (some (.v 8)) (some (.v 9))).den ρ):yM.den ρ ρ:=by
 subst v2 v12
 exact ⟨hc.1,Int.le_trans hc.2 (show (300:Int)<=990000 by decide),mO (X:=IL) v3 v5 v6 S hm hg ht fun e h3 he s=>i5 h3 he (mB s ⟨hv.1,Int.le_trans hv.2 (show (400:Int)<=990000 by decide),isl,rfl,rfl,rfl,rfl,rfl,rfl,rfl,rfl,rfl,rfl,rfl,rfl,rfl,rfl,rfl,rfl,rfl,rfl,rfl,rfl,rfl,rfl,rfl,rfl,rfl,rfl,rfl,rfl⟩)⟩
theorem pY (P:Params):(dU P).drop 10=jk P 10 4++(dU P).drop 14:=by kernel_rfl
theorem Gk:aM (List.range 11) gP gP=some wj:=by kernel_rfl
noncomputable def k6:List Nat:=[0,1,2,3,4,5]
noncomputable def Gz:AO:=.ns [(S' "ratio",.loc 11),(S' "order",wv 15),(S' "sign",wv 14),(S' "shift",.int (.c 0)),(S' "items",.loc 10),(S' "depth",wv 1),(S' "height",wv 0),(S' "width",wv 13),(S' "kind",.int (.c 2))]
noncomputable def lV:List AO:=[.cell none,.cell none,.cell none,.cell (some (.loc 9)),.cell (some (.int (.v 8))),.rf 1,.fz (.tup [pv 16,pv 17]),.fz (.tup [pv 18,pv 19]),.fz (lF 6 7),.fz (.il 201 [])]
noncomputable def nS:List AO:=lV++[.fz (.rf 13),.fz (.tup [wv 16,wv 17]),.fz Gz,.fz (.inst 389 12)]
theorem Em:gX k6 0 BD=nS:=by kernel_rfl
theorem Fk:gX k6 0 lV=lV:=by kernel_rfl
noncomputable def qN (xw:Addr):List (Str×AV):=[(S' "within",.glb (.ref xw)),(S' "end",.int (.v 9)),(S' "told",.loc 8)]++GG
noncomputable def bH (xw:Addr):St:=⟨qN xw,rj,lV,[]⟩
noncomputable def sZ (xw:Addr):List Ob1:=[.ie (.v 8) (.v 8),.rf 1 1,.ie (.v 36) (.v 36),.ie (.v 37) (.v 37),.ie (.v 38) (.v 38),.ie (.v 39) (.v 39),.ie (.c 2) (.c 2),.ie (.v 33) (.v 33),.ie (.v 20) (.v 20),.ie (.v 21) (.v 21),.ie (.c 0) (.c 0),.ie (.v 34) (.v 34),.ie (.v 35) (.v 35),.il 201 [] 201 [],.val (.ref xw) (.ref xw),.ie (.v 9) (.v 9),.ie (.v 6) (.v 6),.ie (.v 5) (.v 5),.ie (.v 3) (.v 3)]
noncomputable def Gs (i:Nat):Option Nat:=if i=12 then some 3 else none
noncomputable def Gg (i:Nat):Option Nat:=if i=11 then some 6 else if i=12 then some 7 else if i=10 then some 3 else none
noncomputable def Dz:AO:=.ns [(S' "ratio",.any),(S' "order",.any),(S' "sign",.any),(S' "shift",.int (.v 3)),(S' "items",.any),(S' "depth",.int (.v 2)),(S' "height",.int (.v 1)),(S' "width",.int (.v 0)),(S' "kind",.int (.c 2))]
noncomputable def Eh:AO:=.ns [(S' "ratio",.loc 6),(S' "order",.int (.v 3)),(S' "sign",.int (.v 2)),(S' "shift",.any),(S' "items",.loc 3),(S' "depth",.any),(S' "height",.any),(S' "width",.any),(S' "kind",.int (.c 2))]
noncomputable def wf (j:Nat):IE:=.fn (100 + j) (.c 13) (.c 1) (.c 0)
theorem zI:fG Gs Gz Dz=some [.ie (.c 0) (.v 3),.ie (wf 1) (.v 2),.ie (wf 0) (.v 1),.ie (wf 13) (.v 0),.ie (.c 2) (.c 2)]/\fG Gs (.inst 389 12) (.inst 389 3)=some []:=⟨by kernel_rfl,by kernel_rfl⟩
theorem si:fG Gg (.tup [wv 16,wv 17]) (.tup [.int (.v 4),.int (.v 5)])=some [.ie (wf 16) (.v 4),.ie (wf 17) (.v 5)]/\fG Gg Gz Eh=some [.ie (wf 15) (.v 3),.ie (wf 14) (.v 2),.ie (.c 2) (.c 2)]/\fG Gg (.inst 389 12) (.inst 389 7)=some []:=⟨by kernel_rfl,by kernel_rfl,by kernel_rfl⟩
section
variable {w:World} {A:Around} {gs:Array GenState} {dr:Drawn} {os:OsState} {G:Gr} {F:List Addr} {bs bs2:List Int} {nds nds2:List Nd} {env:Env} {h:Heap} {n:Nat} {as:List Addr} {b e:Nat} {gap:Int}
theorem SR.lss {ρ:Rho} {O:Opq} {s:St} (S:SR w ρ O G env h s as) {ls':List (Str×AV)} (k:∀x v,ls'.lookup x=some v->∃v0,s.ls.lookup x=some v0/\∀V,Dn ρ as v0 V->Dn ρ as v V):SR w ρ O G env h { s with ls:=ls' } as:=by
 apply bc;intro ng
 obtain ⟨fn,N,l1⟩:=S.lc
 apply ng;clear ng
 exact ⟨S.bs,S.kp,S.og,S.fL,S.eg,S.eb,S.ek,⟨fn,N,fun x v e=>let ⟨v0,e0,z⟩:=k x v e; let ⟨V,z1,z2⟩:=l1 x v0 e0; ⟨V,z1,z V z2⟩⟩,S.cc,S.sz,S.ob,S.nd,S.pc⟩
theorem Ft (xw:Addr):aM (List.range 10) { (⟨[(S' "within",.loc 13),(S' "end",.int (.v 9)),(S' "told",.loc 8)]++GG,rj,nS,[]⟩:St) with ls:=qN xw } (bH xw)=some (sZ xw):=by kernel_rfl
end
theorem FG {bs bs2:List Int} {nds nds2:List Nd} {gap x c md u v:Int} {b e:Nat}:bD (bl bs nds gap (bS x c md (ad nds).n gap 0 0 0 0 (PV nds gap))) (cw bs bs2 nds nds2 gap b e (bS x c md (ad nds).n gap b e u v (PV nds gap))) wj:=by
 have pa:∀j,(bl bs nds gap (bS x c md (ad nds).n gap 0 0 0 0 (PV nds gap))).v (20 + j)=(PV nds gap).getD j 0:=fun j=>fE j
 have pb:∀j,(cw bs bs2 nds nds2 gap b e (bS x c md (ad nds).n gap b e u v (PV nds gap))).v (20 + j)=(PV nds gap).getD j 0:=fun j=>fE j
 have pp:∀j,(bl bs nds gap (bS x c md (ad nds).n gap 0 0 0 0 (PV nds gap))).v (20 + j)=(cw bs bs2 nds nds2 gap b e (bS x c md (ad nds).n gap b e u v (PV nds gap))).v (20 + j):=fun j=>(pa j).trans (pb j).symm
 have va:∀i y,(bS x c md (ad nds).n gap 0 0 0 0 (PV nds gap)).getD i 0=y->(bS x c md (ad nds).n gap b e u v (PV nds gap)).getD i 0=y->(bl bs nds gap (bS x c md (ad nds).n gap 0 0 0 0 (PV nds gap))).v i=(cw bs bs2 nds nds2 gap b e (bS x c md (ad nds).n gap b e u v (PV nds gap))).v i:=fun i y e1 e2=>e1.trans e2.symm
 have v1:=va 1 x rfl rfl
 have v2:=va 2 c rfl rfl
 have v3:=va 3 md rfl rfl
 have v5:=va 5 (ad nds).n rfl rfl
 have v6:=va 6 gap rfl rfl
 have l1:(bl bs nds gap (bS x c md (ad nds).n gap 0 0 0 0 (PV nds gap))).l 1=(cw bs bs2 nds nds2 gap b e (bS x c md (ad nds).n gap b e u v (PV nds gap))).l 1:=rfl
 have l2:(bl bs nds gap (bS x c md (ad nds).n gap 0 0 0 0 (PV nds gap))).l 201=(cw bs bs2 nds nds2 gap b e (bS x c md (ad nds).n gap b e u v (PV nds gap))).l 201:=rfl
 exact ⟨v1,v2,l1,pp 16,pp 17,pp 18,pp 19,rfl,pp 13,pp 0,pp 1,rfl,pp 14,pp 15,congrArg (·++[]) l2,v6,v5,v3⟩
section
variable {w:World} {A:Around} {gs:Array GenState} {dr:Drawn} {os:OsState} {G:Gr} {F:List Addr} {bs bs2:List Int} {nds nds2:List Nd} {env:Env} {h:Heap} {n:Nat} {as:List Addr} {b e:Nat} {gap:Int}
structure Within (w:World) (G:Gr) (F:List Addr) (bs:List Int) (run:List Nd) (b e:Nat) (xw:Addr):Prop where
 nd:bP G F xw (dP run)
 bx:∃aw,At G aw (.pl (((bs.take e).drop b).map ak))/\Ao G aw xw (aI (ad run) 0)
theorem pI {vs:List Int} {s:St} (S:SR w (cw bs bs2 nds nds2 gap b e vs) (OG w G) G env h s as) (hF:F.length=3) (ob:s.ob=nS):∃xw,as[13]? = some xw/\Within w G F bs (aF nds b e) b e xw:=by
 apply bc;intro ng
 obtain ⟨aw,e10,x10,-⟩:=S.get (i:=10) (o:=.fz (.rf 13)) (by refine aa ob ?_; rfl)
 obtain ⟨ar,e11,x11,-⟩:=S.get (i:=11) (o:=.fz (.tup [wv 16,wv 17])) (by refine aa ob ?_; rfl)
 obtain ⟨an,e12,x12,-⟩:=S.get (i:=12) (o:=.fz Gz) (by refine aa ob ?_; rfl)
 obtain ⟨xw,e13,x13,-⟩:=S.get (i:=13) (o:=.fz (.inst 389 12)) (by refine aa ob ?_; rfl)
 apply ng;clear ng
 have z0:bK (ad (aF nds b e)) 1 0 - (ad (aF nds b e)).n=0:=by unfold bK; refine aa (if_neg (by (first | decide | lia | omega))) ?_; (first | decide | lia | omega)
 have w0:∀ρ:Rho,ρ=cw bs bs2 nds nds2 gap b e vs->ρ.f 113 13 1 0=(ad (aF nds b e)).n:=fun ρ q=>by subst q; show (ad (aF nds b e)).n + 0=_; (first | decide | lia | omega)
 refine ⟨xw,e13,⟨⟨[an,xw],rfl,?_⟩,aw,x10,ar,an,fun as' ρ' a3 a6 a7 v2 v3 v4 v5=>?_⟩⟩
 ·have hm:Mp Gs as (F++[an,xw]):=by
   intro i j ej x ex
   unfold Gs at ej
   split at ej
   ·rename_i z; subst z; cases ej; rw [e12] at ex; cases ex
    refine aa (List.getElem?_append_right (by (first | decide | lia | omega))) (aa hF ?_); rfl
   ·exact ap ej
  refine .cons (bI (ρ:=cw bs bs2 nds nds2 gap b e vs) hm zI.1 ⟨rfl,rfl,rfl,w0 _ rfl,rfl⟩ x12) (.cons (bI (ρ:=cw bs bs2 nds nds2 gap b e vs) (o:=.inst 389 12) hm zI.2 trivial x13) .nil)
 ·have hm:Mp Gg as as':=by
   intro i j ej x ex
   unfold Gg at ej
   split at ej
   ·rename_i z; subst z; cases ej; rw [e11] at ex; cases ex; exact a6
   ·split at ej
    ·rename_i z; subst z; cases ej; rw [e12] at ex; cases ex; exact a7
    ·split at ej
     ·rename_i z; subst z; cases ej; rw [e10] at ex; cases ex; exact a3
     ·exact ap ej
  have g14:(cw bs bs2 nds nds2 gap b e vs).f 114 13 1 0=(aI (ad (aF nds b e)) 0).s:=by show bg (ad (aF nds b e)) (bK (ad (aF nds b e)) 1 0 - (ad (aF nds b e)).n) 12=bg (ad (aF nds b e)) 0 12; exact aa z0 rfl
  have g15:(cw bs bs2 nds nds2 gap b e vs).f 115 13 1 0=(aI (ad (aF nds b e)) 0).o:=by show bg (ad (aF nds b e)) (bK (ad (aF nds b e)) 1 0 - (ad (aF nds b e)).n) 13=bg (ad (aF nds b e)) 0 13; exact aa z0 rfl
  have g16:(cw bs bs2 nds nds2 gap b e vs).f 116 13 1 0=(aI (ad (aF nds b e)) 0).p:=by show bg (ad (aF nds b e)) (bK (ad (aF nds b e)) 1 0 - (ad (aF nds b e)).n) 14=bg (ad (aF nds b e)) 0 14; exact aa z0 rfl
  have g17:(cw bs bs2 nds nds2 gap b e vs).f 117 13 1 0=(aI (ad (aF nds b e)) 0).q:=by show bg (ad (aF nds b e)) (bK (ad (aF nds b e)) 1 0 - (ad (aF nds b e)).n) 15=bg (ad (aF nds b e)) 0 15; exact aa z0 rfl
  exact ⟨bI (ρ:=cw bs bs2 nds nds2 gap b e vs) hm si.1 ⟨g16.trans v4.symm,g17.trans v5.symm⟩ x11,bI (ρ:=cw bs bs2 nds nds2 gap b e vs) hm si.2.1 ⟨g15.trans v3.symm,g14.trans v2.symm,rfl⟩ x12,bI (ρ:=cw bs bs2 nds nds2 gap b e vs) (o:=.inst 389 12) hm si.2.2 trivial x13⟩
theorem aT.len (x:aT w G F):F.length=3:=by obtain ⟨_,_,_,rfl,_⟩:=x; rfl
theorem Gc {ns:List Int} {x c:Int} (HB0:HB w (OG w G)) (S:SR w (bl bs nds gap (bS x c (kG ns) (ad nds).n gap 0 0 0 0 (PV nds gap))) (OG w G) G env h gP as) (D:Drawn' w G F bs nds) (hg : -9830400<=gap/\gap<=9830400) (hc:0<=c/\c<=300) (esc:env.scope=eY w.params) (R:Room A 200) {Q:Flow->Shared->Prop} {E:Value->Shared->Prop}
  (q:∀G' h' n' as' bs2 nds2 b e u v xw,be G G'->HB w (OG w G')->SR w (cw bs bs2 nds nds2 gap b e (bS x c (kG ns) (ad nds).n gap b e u v (PV nds gap))) (OG w G') G' env h' (bH xw) as'->Drawn' w G' F bs nds->RunD nds bs bs2 nds2 b e->Within w G' F bs (aF nds b e) b e xw->wpAny (model pr w) A (execs ((dU w.params).drop 14) env) Q E ⟨h',gs,dr,n',os⟩) :
  wpAny (model pr w) A (execs ((dU w.params).drop 10) env) Q E ⟨h,gs,dr,n,os⟩:=by
 have hl:=D.len
 have hlo:=D.lo
 have hhi:=D.hi
 apply bc;intro ng
 obtain ⟨pm,cm⟩:=mq (x:=x) (c:=c) (L:=bs) (F:=[]) (n:=bs.length) rfl
 rw [List.nil_append] at pm
 obtain ⟨nds2,pn,D2⟩:=qM (R:=CL G F) pm D.it
 obtain ⟨bs2,hbs2⟩:∃z,z=(fR bs.length x c bs []).1:=⟨_,rfl⟩
 obtain ⟨u,hu⟩:∃z,z=(fR bs.length x c bs []).2.1:=⟨_,rfl⟩
 obtain ⟨v,hv⟩:∃z,z=(fR bs.length x c bs []).2.2:=⟨_,rfl⟩
 rw [<- hbs2] at pm D2
 have dk:=bC (a:=u) (c:=v) (m:=bs.length) (by (first | lia | omega))
 obtain ⟨b,hb⟩:∃b:Nat,(b:Int)=bt u v bs.length:=⟨(bt u v bs.length).toNat,by (first | lia | omega)⟩
 obtain ⟨e,he⟩:∃e:Nat,e=fB (nds.map fun nd=>nd.k.run) 4 b:=⟨_,rfl⟩
 apply ng;clear ng
 have hb':b=(bt u v bs.length).toNat:=by (first | lia | omega)
 have ro:=oV (kd:=nds.map fun nd=>nd.k.run) (n:=4) (e:=b) (by rw [List.length_map]; (first | lia | omega))
 rw [<- he,List.length_map] at ro
 have RD:RunD nds bs bs2 nds2 b e:=by
  refine ⟨ro.1,ro.2.1,by (first | lia | omega),fun nd m=>?_,pn,pm.length_eq⟩
  apply bc;intro ng
  obtain ⟨i,ei⟩:=List.mem_iff_getElem?.mp m
  apply ng;clear ng
  rw [List.getElem?_drop,List.getElem?_take] at ei
  split at ei
  ·rename_i hlt
   have z:=ro.2.2.2 (b + i) (by (first | lia | omega)) hlt
   rw [List.getD,List.getElem?_map,ei] at z
   exact z
  ·exact ap ei
 have S0:=S.re (ρ':=cw bs bs2 nds nds2 gap b e (bS x c (kG ns) (ad nds).n gap b e u v (PV nds gap))) (s':=gP) (List.range 11) Gk FG
 generalize ((List.range 11).map fun j=>as.getD j 0)=as0 at S0
 have HW:H2 w (cw bs bs2 nds nds2 gap b e (bS x c (kG ns) (ad nds).n gap b e u v (PV nds gap))) (OG w G) MM 81:=by
  refine ⟨HB0,by (first | lia | omega),ay.or (ay.le (d:=60) (BC (by show bs.length<=100; (first | lia | omega)) hbs2 hu hv) (by (first | lia | omega))) (ay.or (ay.le (d:=60) (BE (F:=F) (nds:=nds) ⟨by show 0 < bs.length; (first | lia | omega),by show bs.length<=100; (first | lia | omega)⟩ D.fo.len (D.it.mono fun zw zw ⟨b,e,a,b1,_⟩=>⟨b,e,a,b1⟩) hb ?_) (by (first | lia | omega))) (nF (Ji D hg D2 pn)))⟩
  show (e:Int)=(fB (nds.map fun nd=>nd.k.run) 4 (bt u v bs.length).toNat:Nat)
  exact aa (Eq.symm hb') (aa (Eq.symm he) rfl)
 have sm:Same (cw bs bs2 nds nds2 gap b e (bS x c (kG ns) (ad nds).n gap b e u v (PV nds gap))) 2 (kG ns) (ad nds).n gap:=ka (nds:=nds) (mY pn _) (by
  show nds2.isEmpty=nds.isEmpty
  have:=pn.length_eq
  cases nds2 <;> cases nds <;> first | rfl | cases this) rfl
 rw [pY]
 refine aH (iT (ρ':=cw bs bs2 nds nds2 gap b e (bS x c (kG ns) (ad nds).n gap b e u v (PV nds gap))) HW esc (AB w.params) (R.le (by (first | lia | omega))) S0 (I1 (c:=c) (v:=v) (own:=(ad nds).n) (gap:=gap) (md:=kG ns) rfl rfl rfl rfl rfl sm (kj ns) hg (by have:=D.fit.n; (first | lia | omega)) hc (by (first | lia | omega)) ?_) fun h1 as1 n1 S1 p1=>?_)
 ·exact ⟨by show (0:Int)<=b; (first | lia | omega),by show (0:Int)<=e; (first | lia | omega),rfl,by show bs.length<=1000; (first | lia | omega)⟩
 generalize ([0,1,2,3,4,6,7,8,9,10,19,20,21,22].map fun j=>as1.getD j 0)=as2 at S1
 have S2:=S1.grow k6
 have gl:=S1.growLe k6
 have e1:({ tC with ob:=gX k6 0 tC.ob }:St)=⟨[(S' "within",.loc 13),(S' "end",.int (.v 9)),(S' "told",.loc 8)]++GG,rj,nS,[]⟩:=by
  show ({ tC with ob:=gX k6 0 BD }:St)=_
  refine aa Em ?_; rfl
 rw [e1] at S2
 generalize mu h1 env.locals (k6.filterMap (bX tC.ob as2))=G2 at S2 gl
 have D:=D.le gl
 have HB0:HB w (OG w G2):=let ⟨hb,W,kb⟩:=HB0; ⟨hb,W,fun a o e=>gl a o (kb a o e)⟩
 apply bc;intro ng
 obtain ⟨xw,e13,Wi⟩:=pI (F:=F) S2 D.fo.len rfl
 apply ng;clear ng
 have S3:=S2.lss (ls':=qN xw) fun z v0 ez=>by
  by_cases hz:z=S' "within"
  ·subst hz
   cases ez
   exact ⟨_,rfl,fun V d=>by obtain ⟨a,ea,rfl⟩:=d; rw [e13] at ea; cases ea; rfl⟩
  ·refine ⟨v0,?_,fun V d=>d⟩
   unfold qN at ez
   rw [List.cons_append,List.lookup_cons] at ez ⊢
   rw [show (z == S' "within")=false from beq_eq_false_iff_ne.mpr hz] at ez ⊢
   exact ez
 have S4:=S3.re (ρ':=cw bs bs2 nds nds2 gap b e (bS x c (kG ns) (ad nds).n gap b e u v (PV nds gap))) (s':=bH xw) (List.range 10) (Ft xw) ⟨rfl,rfl,rfl,rfl,rfl,rfl,rfl,rfl,rfl,rfl,rfl,rfl,rfl,rfl,rfl,rfl,rfl,rfl,rfl⟩
 exact q G2 h1 n1 _ bs2 nds2 b e u v xw gl HB0 S4 D RD Wi
end
noncomputable def Nb:List Nat:=[0,1,2,3,4,5,6,7,8,9]
noncomputable def Gj (P:Params) (xw:Addr):VC:=(cx P (uO [2057]) 30 (eY P) (jk P 14 2) (bH xw)).vc Nb .nx (bH xw)
noncomputable def Ht (P:Params) (xw:Addr):VC:=(cx P (CI HS (uO [5])) 30 (eY P) (jk P 17 4) (bH xw)).vc [] (.rt (.bool true)) ⟨[],[],[],[]⟩
noncomputable def KS (xw:Addr) (e:IE):VC:=Cq (.v 3) e (GA 2057 (.v 3) e (Gy 2057 (.v 3) e (.req (.isl 2012 201 none (some (.add (.v 8) (.c 1)))) (.req (.isl 2011 201 (some (.v 9)) none) (.req (.icat 6035 2012 2011) (.req (.ieq 2257 6035) (.ok [.ie (.v 8) (.v 8),.rf 1 1,.ie (.v 36) (.v 36),.ie (.v 37) (.v 37),.ie (.v 38) (.v 38),.ie (.v 39) (.v 39),.ie (.c 2) (.c 2),.ie (.v 33) (.v 33),.ie (.v 20) (.v 20),.ie (.v 21) (.v 21),.ie (.c 0) (.c 0),.ie (.v 34) (.v 34),.ie (.v 35) (.v 35),.il 201 [] 201 [],.val (.ref xw) (.ref xw),.ie (.v 9) (.v 9),.ie (.v 6) (.v 6),.ie (.v 5) (.v 5),.ie (.v 3) (.v 3)])))))))
noncomputable def yU (xw:Addr):VC:=.req (.isl 12 1 none (some (.v 8))) (.req (.iref 1023 12 xw) (.req (.isl 11 1 (some (.v 9)) none) (.req (.icat 2057 1023 11) (.br (.eq (.v 3) (.c 1)) (KS xw (.v 6)) (KS xw eG)))))
theorem Cb (P:Params) (xw:Addr):Gj P xw=yU xw:=by kernel_rfl
noncomputable def eC (e:IE):VC:=Cq (.v 3) e (GA 5 (.v 3) e (Gy 5 (.v 3) e (.req (.last 205 (.v 705)) (.req (.last 201 (.v 701)) (.br (.eq (.v 705) (.v 701)) (.ok []) .fail)))))
noncomputable def Eu (xw:Addr):VC:=.br (.emp 5) (.ok []) (.br (.eq (.v 3) (.c 1)) (eC (.v 6)) (eC eG))
theorem Gh (P:Params) (xw:Addr):Ht P xw=Eu xw:=by kernel_rfl
noncomputable def uP (nds:List Nd) (b e:Nat):List Nd:=nds.take b++[dP (aF nds b e)]++nds.drop e
noncomputable def Nu (bs:List Int) (nds:List Nd) (gap:Int) (b e:Nat) (xw:Addr) (k:Nat):List Int :=
 if k=1 then bs else if k=12 then bs.take b else if k=1023 then bs.take b++[(xw:Int)] else if k=11 then bs.drop e else if k=2057 then bs.take b++[(xw:Int)]++bs.drop e
 else if k=201 then av (aI (ad nds) gap) nds else if k=2012 then (av (aI (ad nds) gap) nds).take (b + 1) else if k=2011 then (av (aI (ad nds) gap) nds).drop e
 else if k=6035 then (av (aI (ad nds) gap) nds).take (b + 1)++(av (aI (ad nds) gap) nds).drop e else if k=2257 then av (aI (ad nds) gap) (uP nds b e)
 else if k=2013 then ((av (aI (ad nds) gap) nds).take (e + 1)).drop b else []
noncomputable def cK (bs:List Int) (nds:List Nd) (gap:Int) (b e:Nat) (xw:Addr) (vs:List Int):Rho:=iP vs (Nu bs nds gap b e xw) (fun zw=>uP nds b e) fun zw=>aI (ad nds) gap
theorem rr {r1 r2:Rho} {xw:Addr} (hv:∀i,i < 40->r1.v i=r2.v i) (h1:r1.l 1=r2.l 1) (h2:r1.l 201=r2.l 201):bD r1 r2 (sZ xw) :=
 ⟨hv 8 (by decide),h1,hv 36 (by decide),hv 37 (by decide),hv 38 (by decide),hv 39 (by decide),rfl,hv 33 (by decide),hv 20 (by decide),hv 21 (by decide),rfl,hv 34 (by decide),hv 35 (by decide),congrArg (·++[]) h2,rfl,hv 9 (by decide),hv 6 (by decide),hv 5 (by decide),hv 3 (by decide)⟩
theorem zx {r1 r2:Rho} {xw:Addr} (hv:r1.v=r2.v) (h1:r1.l 1=r2.l 1) (h2:r1.l 201=r2.l 201):bD r1 r2 (sZ xw):=rr (fun i zw=>congrFun hv i) h1 h2
theorem zc (xw:Addr):aM (List.range 10) (bH xw) (bH xw)=some (sZ xw):=by kernel_rfl
theorem j9 {nds:List Nd} {b e:Nat} (h:∀nd∈(nds.take e).drop b,nd.k.run=true):∀a∈aF nds b e,a.noG:=fun a m=>by
 have:=h a m
 unfold Nd.noG
 intro q
 rw [q] at this
 exact bG this
theorem gD {α:Type} {l:List α} {b e:Nat} (h:b<=e):l.take b++(l.take e).drop b++l.drop e=l:=by
 have:l.take b=(l.take e).take b:=by exact aa List.take_take (aa (Nat.min_eq_left h) rfl)
 rw [this,List.take_append_drop,List.take_append_drop]
section
variable {w:World} {G:Gr} {F:List Addr} {bs bs2:List Int} {nds nds2:List Nd} {b e:Nat} {gap:Int} {xw:Addr}
theorem jv (RD:RunD nds bs bs2 nds2 b e):ad (uP nds b e)=ad nds:=by
 unfold uP
 refine aa (pR (j9 RD.run)) ?_
 show ad (nds.take b++(nds.take e).drop b++nds.drop e)=_
 exact aa (gD RD.le) rfl
theorem Hs (D:Drawn' w G F bs nds) (hg : -9830400<=gap/\gap<=9830400) (RD:RunD nds bs bs2 nds2 b e) (Wi:Within w G F bs (aF nds b e) b e xw) {vs:List Int}:LawE w G F (cK bs nds gap b e xw vs) [2057] (fun zw=>uP nds b e) fun zw=>aI (ad nds) gap:=by
 have one:∀k∈[2057],k=2057:=fun k m=>List.mem_singleton.mp m
 have it:All2 (fun V nd=>∃x,V = .ref x/\bP G F x nd/\nd.ok) (bs.map ak) nds:=D.it.mono fun zw zw ⟨b,e,a,b1,_⟩=>⟨b,e,a,b1⟩
 have itg:All2 (fun V nd=>∃x,V = .ref x/\bP G F x nd/\nd.ok) ((bs.take b++[(xw:Int)]++bs.drop e).map ak) (uP nds b e):=by
  refine aa List.map_append (aa List.map_append (aa List.map_take (aa List.map_drop ?_)))
  exact ((it.take b).app (.cons ⟨xw,rfl,Wi.nd,trivial⟩ .nil)).app (it.drop e)
 refine hQ D.fo (fun k m=>?_) (fun k m=>?_) (fun k m=>?_) (fun k m=>cH D.fit (by (first | decide | omega)) (by (first | decide | omega))) fun k m=>?_
 ·refine aa (one k m) ?_; exact itg
 ·refine aa (jv RD) ?_; exact D.fit.up (by (first | decide | omega))
 ·have:=D.hi
  unfold uP
  simp only [List.length_append,List.length_take,List.length_drop,List.length_singleton]
  (first | decide | omega)
 ·rw [one k m,cj]; rfl
theorem qF (D:Drawn' w G F bs nds) (hg : -9830400<=gap/\gap<=9830400) (RD:RunD nds bs bs2 nds2 b e):av (aI (ad nds) gap) (uP nds b e)=(av (aI (ad nds) gap) nds).take (b + 1)++(av (aI (ad nds) gap) nds).drop e:=by
 have z:=lq (B:=aI (ad nds) gap) (cH D.fit (by (first | decide | lia | omega)) (by (first | decide | lia | omega))) (pre:=nds.take b) (post:=nds.drop e) (j9 RD.run)
 have sp:nds.take b++aF nds b e++nds.drop e=nds:=gD RD.le
 rw [sp] at z
 have lb:(nds.take b).length=b:=by rw [List.length_take]; have:=RD.hb; (first | decide | lia | omega)
 have lr:(aF nds b e).length=e - b:=by unfold aF; rw [List.length_drop,List.length_take]; have:=RD.he; (first | decide | lia | omega)
 rw [lb,lr,show b + (e - b)=e by have:=RD.le; (first | decide | lia | omega)] at z
 exact z
theorem qs (D:Drawn' w G F bs nds) (hg : -9830400<=gap/\gap<=9830400) (RD:RunD nds bs bs2 nds2 b e):(av (aI (ad (aF nds b e)) 0) (aF nds b e)).map (((av (aI (ad nds) gap) nds).getD b 0) + ·)=((av (aI (ad nds) gap) nds).take (e + 1)).drop b:=by
 have z:=qW (B:=aI (ad nds) gap) (cH D.fit (by (first | lia | omega)) (by (first | lia | omega))) (pre:=nds.take b) (post:=nds.drop e) (j9 RD.run)
 have sp:nds.take b++aF nds b e++nds.drop e=nds:=gD RD.le
 rw [sp] at z
 have lb:(nds.take b).length=b:=by refine aa List.length_take ?_; have:=RD.hb; (first | lia | omega)
 have lr:(aF nds b e).length=e - b:=by unfold aF; refine aa List.length_drop (aa List.length_take ?_); have:=RD.he; (first | lia | omega)
 rw [lb,lr] at z
 exact aa uy (aa z (aa List.drop_take (aa (show e - b + 1=e + 1 - b by have:=RD.le; (first | lia | omega)) rfl)))
end
noncomputable def lE (j i:Nat):Option Nat:=if i < 3 then some i else if i=3 + j then some 3 else none
noncomputable def vB (q:Nat):AO:=.ns [(S' "code",.int (.v q)),(S' "font",.loc 1)]
noncomputable def DL:AO:=.ns [(S' "sort",.int (.c 0)),(S' "width",.int (.v 1))]
noncomputable def CQ:AO:=.ns [(S' "sort",.int (.v 1)),(S' "width",.int (.v 0))]
theorem jA:fG (lE 2) (vB 0) (vB 0)=some [.ie (.v 0) (.v 0)]/\fG (lE 2) (.inst 368 5) (.inst 368 3)=some []/\fG (lE 4) DL CQ=some [.ie (.c 0) (.v 1),.ie (.v 1) (.v 0)]/\fG (lE 4) (.inst 431 7) (.inst 431 3)=some []:=⟨by kernel_rfl,by kernel_rfl,by kernel_rfl,by kernel_rfl⟩
section
variable {g:Gr} {F:List Addr}
theorem jU {ρ ρ':Rho} {as2:List Addr} {j:Nat} {a0 a1:Addr} {o0 o1 u0 u1:AO} {l0 l1:List Ob1} (hF:F.length=3) (e0:as2[j]? = some a0) (r0:fG (lE j) o0 u0=some l0) (r1:fG (lE j) o1 u1=some l1) (b0:bD ρ ρ' l0) (b1:bD ρ ρ' l1) (x0:aN ρ (F++as2) g a0 o0) (x1:aN ρ (F++as2) g a1 o1) :
  All2 (fun x u=>aN ρ' (F++[a0,a1]) g x u) [a0,a1] [u0,u1]:=by
 have hm:Mp (lE j) (F++as2) (F++[a0,a1]):=by
  intro i k ek x ex
  unfold lE at ek
  split at ek
  ·rename_i hi
   cases ek
   rw [List.getElem?_append_left (by (first | lia | omega))] at ex ⊢
   exact ex
  ·split at ek
   ·rename_i z; subst z; cases ek
    rw [List.getElem?_append_right (by (first | lia | omega)),hF,Nat.add_sub_cancel_left,e0] at ex
    cases ex
    rw [List.getElem?_append_right (by (first | lia | omega)),hF]; rfl
   ·exact ap ek
 exact .cons (bI hm r0 b0 x0) (.cons (bI hm r1 b1 x1) .nil)
theorem yn {V:Value} {p:Nd×List Int} (hF:F.length=3) (x:CG g F V p) (ok:p.1.ok):All2 (fun V nd=>∃x,V = .ref x/\bP g F x nd/\nd.ok) (p.2.map ak) p.1.flat:=by
 apply bc;intro ng
 obtain ⟨x,as2,rfl,e1,e2,e3⟩:=x
 obtain ⟨⟨k,a⟩,q⟩:=p
 apply ng;clear ng
 dsimp only at e1 e2 e3 ok ⊢
 subst e3
 have self:All2 (fun V nd=>∃x,V = .ref x/\bP g F x nd/\nd.ok) ([((as2.getD k.last 0:Nat):Int)].map ak) [⟨k,a⟩]:=by
  refine .cons ⟨x,?_,⟨as2,e1,e2⟩,ok⟩ .nil
  show Value.ref ((as2.getD k.last 0:Nat):Int).toNat=_
  rw [List.getD,e1]; rfl
 have two:∀{j:Nat} {o0 o1:AO},(k.T 3 0)[j]? = some o0->(k.T 3 0)[j + 1]? = some o1->∃a0 a1,as2[j]? = some a0/\as2[j + 1]? = some a1/\aN (dy a) (F++as2) g a0 o0/\aN (dy a) (F++as2) g a1 o1:=fun {j o0 o1} t0 t1=>by
  apply bc;intro ng
  obtain ⟨a0,f0,y0⟩:=e2.rget t0
  obtain ⟨a1,f1,y1⟩:=e2.rget t1
  apply ng;clear ng
  exact ⟨a0,a1,f0,f1,y0,y1⟩
 induction k with
 | dsc0=>exact .nil
 | dsc1 =>
  apply bc;intro ng
  obtain ⟨a0,a1,f0,f1,y0,y1⟩:=two (j:=2) (o0:=vB 0) (o1:=.inst 368 5) rfl rfl
  apply ng;clear ng
  refine .cons ⟨a1,?_,⟨[a0,a1],rfl,jU (ρ:=dy a) hF f0 jA.1 jA.2.1 rfl trivial y0 y1⟩,ok⟩ .nil
  show Value.ref ((as2.getD 3 0:Nat):Int).toNat=_
  rw [List.getD,f1]; rfl
 | dsc2 =>
  apply bc;intro ng
  obtain ⟨a0,a1,f0,f1,y0,y1⟩:=two (j:=2) (o0:=vB 0) (o1:=.inst 368 5) rfl rfl
  obtain ⟨c0,c1,h0,h1,z0,z1⟩:=two (j:=4) (o0:=DL) (o1:=.inst 431 7) rfl rfl
  apply ng;clear ng
  refine .cons ⟨a1,?_,⟨[a0,a1],rfl,jU (ρ:=dy a) hF f0 jA.1 jA.2.1 rfl trivial y0 y1⟩,ok⟩ (.cons ⟨c1,?_,⟨[c0,c1],rfl,jU (ρ:=dy a) hF h0 jA.2.2.1 jA.2.2.2 ⟨rfl,rfl⟩ trivial z0 z1⟩,trivial⟩ .nil)
  ·show Value.ref ((as2.getD 3 0:Nat):Int).toNat=_
   rw [List.getD,f1]; rfl
  ·show Value.ref ((as2.getD 5 0:Nat):Int).toNat=_
   rw [List.getD,h1]; rfl
 | chr=>exact self | skp=>exact self | krn=>exact self | box2=>exact self | box3=>exact self | pck=>exact self | rul=>exact self | rul4=>exact self | pen=>exact self | mth=>exact self
theorem kN (hF:F.length=3):∀{Us:List Value} {ps:List (Nd×List Int)},All2 (CG g F) Us ps->(∀p∈ps,p.1.ok)->All2 (fun V nd=>∃x,V = .ref x/\bP g F x nd/\nd.ok) ((ps.flatMap (·.2)).map ak) ((ps.map (·.1)).flatMap Nd.flat)
 | _,_,.nil,_=>.nil
 | _,_,.cons x xs,h=>by
  refine aa List.flatMap_cons (aa List.map_append (aa List.map_cons (aa List.flatMap_cons ?_)))
  exact (yn hF x (h _ (.head _))).app (kN hF xs fun p m=>h p (.tail _ m))
end
structure SetK (ρ:Rho) (k:Nat):Prop where
 s:ρ.f 120 k 0 0=ρ.v 34
 o:ρ.f 121 k 0 0=ρ.v 35
 p:ρ.f 122 k 0 0=ρ.v 36
 q:ρ.f 123 k 0 0=ρ.v 37
theorem ph {x c md own gap b e u v:Int} {ls:Nat->List Int} {N:Nat->List Nd} {B:Nat->Bx} {nds:List Nd} {k:Nat} (hB:B k=aI (ad nds) gap):SetK (iP (bS x c md own gap b e u v (PV nds gap)) ls N B) k:=by
 have eg:bK (ad nds) 1 gap - (ad nds).n=gap:=by unfold bK; rw [if_neg (by decide),Int.add_comm,Int.add_sub_cancel]
 have pv:∀j,(iP (bS x c md own gap b e u v (PV nds gap)) ls N B).v (20 + j)=(PV nds gap).getD j 0:=fun j=>fE j
 have g:∀i,bg (ad nds) gap i=bg (ad nds) (bK (ad nds) 1 gap - (ad nds).n) i:=fun i=>by exact aa eg rfl
 exact ⟨(congrArg Bx.s hB).trans ((g 12).trans (pv 14).symm),(congrArg Bx.o hB).trans ((g 13).trans (pv 15).symm),(congrArg Bx.p hB).trans ((g 14).trans (pv 16).symm),(congrArg Bx.q hB).trans ((g 15).trans (pv 17).symm)⟩
theorem IK {ρ:Rho} {xw:Addr} {md own gap:Int} (v3:ρ.v 3=md) (v5:ρ.v 5=own) (v6:ρ.v 6=gap) (S:Same ρ 2057 md own gap) (K:SetK ρ 2057) (hm:md=0\/md=1) (hg : -9830400<=gap/\gap<=9830400) (ht : -72<=own/\own<=35100000)
  (c1:(CE.isl 12 1 none (some (.v 8))).den ρ) (c2:(CE.iref 1023 12 xw).den ρ) (c3:(CE.isl 11 1 (some (.v 9)) none).den ρ) (c4:(CE.icat 2057 1023 11).den ρ) (c5:(CE.isl 2012 201 none (some (.add (.v 8) (.c 1)))).den ρ) (c6:(CE.isl 2011 201 (some (.v 9)) none).den ρ) (c7:(CE.icat 6035 2012 2011).den ρ) (c8:(CE.ieq 2257 6035).den ρ):(yU xw).den ρ ρ:=by
 exact ⟨c1,c2,c3,c4,mO (X:=KS xw) v3 v5 v6 S hm hg ht fun e h3 he s=>i5 h3 he (mB s (mV s ⟨K.s,K.o,K.p,K.q⟩ ⟨c5,c6,c7,c8,rfl,rfl,rfl,rfl,rfl,rfl,rfl,rfl,rfl,rfl,rfl,rfl,rfl,rfl,rfl,rfl,rfl,rfl,rfl⟩))⟩
theorem pX (P:Params):(dU P).drop 14=jk P 14 2++(dU P).drop 16:=by kernel_rfl
theorem bV {B:Bx} {l:List Nd}:(av B l).length=l.length + 1:=by
 unfold av
 rw [List.length_cons,gj]
section
variable {w:World} {A:Around} {gs:Array GenState} {dr:Drawn} {os:OsState} {G:Gr} {F:List Addr} {bs bs2:List Int} {nds nds2:List Nd} {env:Env} {h:Heap} {n:Nat} {as:List Addr} {b e:Nat} {gap:Int} {xw:Addr}
theorem C6 {x c md u v:Int} (hmd:md=0\/md=1) (HB0:HB w (OG w G)) (S:SR w (cw bs bs2 nds nds2 gap b e (bS x c md (ad nds).n gap b e u v (PV nds gap))) (OG w G) G env h (bH xw) as) (D:Drawn' w G F bs nds) (hg : -9830400<=gap/\gap<=9830400) (RD:RunD nds bs bs2 nds2 b e) (Wi:Within w G F bs (aF nds b e) b e xw) (esc:env.scope=eY w.params) (R:Room A 200) {Q:Flow->Shared->Prop} {E:Value->Shared->Prop}
  (q:∀h' n' as',SR w (cK bs nds gap b e xw (bS x c md (ad nds).n gap b e u v (PV nds gap))) (OG w G) G env h' (bH xw) as'->wpAny (model pr w) A (execs ((dU w.params).drop 16) env) Q E ⟨h',gs,dr,n',os⟩) :
  wpAny (model pr w) A (execs ((dU w.params).drop 14) env) Q E ⟨h,gs,dr,n,os⟩:=by
 have hl:=D.len
 have hhi:=D.hi
 have S0:=S.re (ρ':=cK bs nds gap b e xw (bS x c md (ad nds).n gap b e u v (PV nds gap))) (s':=bH xw) (List.range 10) (zc xw) (zx rfl rfl rfl)
 have HW:H2 w (cK bs nds gap b e xw (bS x c md (ad nds).n gap b e u v (PV nds gap))) (OG w G) (uO [2057]) 81:=⟨HB0,by (first | decide | lia | omega),nF (Hs D hg RD Wi)⟩
 have sm:Same (cK bs nds gap b e xw (bS x c md (ad nds).n gap b e u v (PV nds gap))) 2057 md (ad nds).n gap:=ka (nds:=nds) (jv RD) (by
  have:=D.lo
  show (uP nds b e).isEmpty=nds.isEmpty
  unfold uP
  induction nds using List.casesOn with
  | nil=>simp at this
  | cons a r=>simp) rfl
 have sk:SetK (cK bs nds gap b e xw (bS x c md (ad nds).n gap b e u v (PV nds gap))) 2057:=ph rfl
 have sl:(av (aI (ad nds) gap) nds).length<=1000:=by refine aa bV ?_; (first | decide | lia | omega)
 have lt:∀k,(bs.take k).length<=1000:=fun k=>by refine aa List.length_take ?_; (first | decide | lia | omega)
 have ld:∀k,(bs.drop k).length<=1000:=fun k=>by refine aa List.length_drop ?_; (first | decide | lia | omega)
 have st:∀k,((av (aI (ad nds) gap) nds).take k).length<=1000:=fun k=>by refine aa List.length_take ?_; (first | decide | lia | omega)
 have sd:∀k,((av (aI (ad nds) gap) nds).drop k).length<=1000:=fun k=>by refine aa List.length_drop ?_; (first | decide | lia | omega)
 rw [pX]
 refine aH (iT (ρ':=cK bs nds gap b e xw (bS x c md (ad nds).n gap b e u v (PV nds gap))) HW esc (Cb w.params xw) (R.le (by (first | decide | lia | omega))) S0 (IK (md:=md) (own:=(ad nds).n) (gap:=gap) rfl rfl rfl sm sk hmd hg (by have:=D.fit.n; (first | decide | lia | omega)) ?_ ?_ ?_ ?_ ?_ ?_ ?_ ?_) fun h1 as1 n1 S1 p1=>?_)
 ·exact ⟨trivial,by show (0:Int)<=b; (first | decide | lia | omega),rfl,by show bs.length<=1000; (first | decide | lia | omega)⟩
 ·exact ⟨rfl,lt b⟩
 ·exact ⟨by show (0:Int)<=e; (first | decide | lia | omega),trivial,rfl,by show bs.length<=1000; (first | decide | lia | omega)⟩
 ·exact ⟨rfl,by show (bs.take b++[(xw:Int)]).length<=1000; refine aa List.length_append (aa List.length_take (aa List.length_singleton ?_)); (first | decide | lia | omega),ld e⟩
 ·exact ⟨trivial,by show (0:Int)<=b + 1; (first | decide | lia | omega),rfl,sl⟩
 ·exact ⟨by show (0:Int)<=e; (first | decide | lia | omega),trivial,rfl,sl⟩
 ·exact ⟨rfl,st (b + 1),sd e⟩
 ·exact qF D hg RD
 exact q h1 n1 _ S1
end
noncomputable def CY (P:Params):Stmt:=(dU P).getD 16 (.Pass default)
noncomputable def uT (P:Params):Expr:=HM (cg (CY P))
noncomputable def JA (P:Params):Expr:=FZ (cg (CY P))
noncomputable def zm (P:Params):Expr:=q9 (uT P)
noncomputable def Nl:Expr->Expr | .Subscript o _ _=>o | e=>e
noncomputable def NA:Expr->Expr | .Subscript _ i _=>i | e=>e
noncomputable def Jp:Expr->Pos | .Subscript _ _ p=>p | e=>e.pos
noncomputable def nO (P:Params):Expr:=Nl (Gf (zm P))
noncomputable def nI (P:Params):Expr:=NA (Gf (zm P))
noncomputable def yR (P:Params):Expr:=CN (uT P)
noncomputable def Ce (P:Params):Expr:=.Call (.Name (bh (ax (yR P))) (aR (ax (yR P)))) [bq (yR P)] [] (cf (yR P))
noncomputable def Bp (P:Params):Expr:=.BinOp (.Subscript (.Name (bh (nO P)) (aR (nO P))) (.Name (bh (nI P)) (aR (nI P))) (Jp (Gf (zm P)))) .Add (.Name (bh (Ae (zm P))) (aR (Ae (zm P)))) (MN (zm P))
theorem vm (P:Params):(dU P).drop 16 = .If (.Compare (.ListComp (Bp P) [⟨.Name (S' "place") (aR (CO (uT P))),Ce P,[],0⟩] (kI (uT P)) (vq (uT P))) [.NotEq] [JA P] (L2 (cg (CY P)))) (ug (CY P)) [] (rd (CY P))::(dU P).drop 17:=by kernel_rfl
noncomputable def Ai:List (Str×Nat):=[(S' "spots_told",3),(S' "begin",4)]
noncomputable def gw (ls:List (Str×AV)):St:=⟨ls,Ai,lV,[]⟩
noncomputable def rB (P:Params):Scope:=bL (kI (uT P)) (eY P)
theorem Jr (P:Params):c9 (kI (uT P)) (S' "place")=true/\cp (Ce P)=false/\eJ rj (kI (uT P)).names []=some Ai:=⟨by kernel_rfl,by kernel_rfl,by kernel_rfl⟩
theorem DF (P:Params) (ls:List (Str×AV)):bA P aA 12 (rB P) (.Name (bh (nO P)) (aR (nO P))) (gw ls) = .leaf (.rt (.loc 9)) (gw ls):=by kernel_rfl
theorem Fi (P:Params) (ls:List (Str×AV)):bA P aA 12 (rB P) (.Name (bh (nI P)) (aR (nI P))) (gw ls) = .leaf (.rt (.int (.v 8))) (gw ls):=by kernel_rfl
theorem C7 (P:Params) (ls:List (Str×AV)) (p:Int):bA P aA 12 (rB P) (.Name (bh (Ae (zm P))) (aR (Ae (zm P)))) (gw ((S' "place",.int (.c p))::ls)) = .leaf (.rt (.int (.c p))) (gw ((S' "place",.int (.c p))::ls)):=by kernel_rfl
theorem Ez (P:Params) (ls:List (Str×AV)) (p:Int):bZ (rB P) (S' "place") (.int (.c p)) (gw ls) (fun s=>.leaf .nx s) = .leaf .nx (gw ((S' "place",.int (.c p))::ls)):=by kernel_rfl
theorem J9 (P:Params) (xw:Addr):bA P aA 12 (eY P) (.Name (bh (ax (yR P))) (aR (ax (yR P)))) (bH xw) = .leaf (.rt (.glb (.ref 644))) (bH xw):=by kernel_rfl
theorem J1 (P:Params) (xw:Addr) (k:List AV->St->Tr):mP (fS P aA 12) (eY P) [bq (yR P)] (bH xw) k=k [.glb (.ref xw)] (bH xw):=by kernel_rfl
theorem I4 (P:Params):keepIn (K P) (.ref 644)=true:=by kernel_rfl
theorem Eg (P:Params):([bq (yR P)].all fun e=>!aK e)=true/\behindInMarks .NotEq (JA P)=false:=⟨by kernel_rfl,by kernel_rfl⟩
theorem B9 (p q:Int) (s:St) (k:AV->St->Tr):sI .Add (.int (.c q)) (.int (.c p)) s k=k (.int (.c (q + p))) s:=by kernel_rfl
noncomputable def Dd (xw:Addr):St:=⟨qN xw,rj,lV++[.il 2013 []],[]⟩
noncomputable def Mu:List Nat:=[0,1,2,3,4,5,6,7,8,9,10]
noncomputable def Es (xw:Addr):List Ob1:=[.ie (.v 8) (.v 8),.rf 1 1,.ie (.v 36) (.v 36),.ie (.v 37) (.v 37),.ie (.v 38) (.v 38),.ie (.v 39) (.v 39),.ie (.c 2) (.c 2),.ie (.v 33) (.v 33),.ie (.v 20) (.v 20),.ie (.v 21) (.v 21),.ie (.c 0) (.c 0),.ie (.v 34) (.v 34),.ie (.v 35) (.v 35),.il 201 [] 201 [],.il 2013 [] 2013 [],.val (.ref xw) (.ref xw),.ie (.v 9) (.v 9),.ie (.v 6) (.v 6),.ie (.v 5) (.v 5),.ie (.v 3) (.v 3)]
theorem Ey (xw:Addr):aM (List.range 10) (Dd xw) (bH xw)=some (sZ xw):=by kernel_rfl
theorem GY (P:Params) (xw:Addr):(bA P aA 16 (eY P) (JA P) (bH xw)).vc Mu (.rt (.loc 10)) (Dd xw) = .req (.isl 2013 201 (some (.v 8)) (some (.add (.v 9) (.c 1)))) (.ok (Es xw)):=by kernel_rfl
theorem lU:∀{Vs:List Value} {ns:List Int} {i:Nat} {V:Value},IntsAre Vs ns->Vs[i]? = some V->∃p t,ns[i]? = some p/\V = .int p t
 | _,_,0,V,.cons n t _,e=>by cases e; exact ⟨_,_,rfl,rfl⟩
 | _,_,i + 1,V,.cons n t x,e=>lU (i:=i) x e
theorem eF:∀{Vs:List Value} {ns:List Int},IntsAre Vs ns->Vs.length=ns.length
 | _,_,.nil=>rfl
 | _,_,.cons n t x=>congrArg (· + 1) (eF x)
theorem jC:∀{Vs:List Value} {ns:List Int} {i:Nat} {p:Int},IntsAre Vs ns->ns[i]? = some p->∃t,Vs[i]? = some (.int p t)
 | _,_,0,_,.cons n t _,e=>by cases e; exact ⟨_,rfl⟩
 | _,_,i + 1,_,.cons n t x,e=>jC (i:=i) x e
theorem jp:∀{Vs:List Value} {ns:List Int} {p:Int} {t:Tok},IntsAre Vs ns->IntsAre (Vs++[.int p t]) (ns++[p])
 | _,_,_,_,.nil=>.cons _ _ .nil
 | _,_,_,_,.cons n t x=>.cons n t (jp x)
section
variable {w:World} {ρ:Rho} {O:Opq} {A:Around} {gs:Array GenState} {dr:Drawn} {os:OsState} {g G:Gr} {env:Env} {h:Heap} {n:Nat} {as:List Addr}
theorem xR {cenv:Env} {ls:List (Str×AV)} {p q0:Int} {t:Tok} {b:Nat} (HB0:HB w (OG w g)) (R:Room A 100) (csc:cenv.scope=rB w.params) (S:SR w ρ (OG w g) G cenv h (gw ls) as) (v8:ρ.v 8=b) (hb:(ρ.l 201)[b]? = some q0) (hlt:(ρ.l 201).length<=1000)
  {E1 E2:Value->Shared->Prop} {Q:Value->Shared->Prop} (q:∀t' h' n' as' ls',SR w ρ (OG w g) G cenv h' (gw ls') as'->Pre as as'->Q (.int (q0 + p) t') ⟨h',gs,dr,n',os⟩) :
  wpAny (model pr w) A (storeName cenv (S' "place") (.int p t)) (fun zw s₂=>wpAny (model pr w) A (eval (Bp w.params) cenv) Q E1 s₂) E2 ⟨h,gs,dr,n,os⟩:=by
 have HH:∀{ρ:Rho},H2 w ρ (OG w g) aA 2:=H2.no HB0
 have RR:Room A (12 + 2):=R.le (by (first | decide | lia | omega))
 refine aW (post:=fun f s=>s=gw ((S' "place",.int (.c p))::ls)) (v:=.int (.c p)) (k:=fun s=>.leaf .nx s) (by rw [csc,Ez]; rfl) S ⟨t,rfl⟩ fun s6 h6 n6 y6 S6=>?_
 have y6:s6=_:=y6
 apply bc;intro ng
 subst y6
 apply ng;clear ng
 refine wpAny_BinOp (Subscript_ (oy HH csc (DF w.params _) RR S6 fun V h7 as7 n7 S7 p7 dv=>oy HH csc (Fi w.params _) RR S7 fun U h8 as8 n8 S8 p8 du=>?_))
 apply bc;intro ng
 obtain ⟨a9,e9,⟨Ws,w1,w2⟩,-⟩:=S8.get (i:=9) (o:=.fz (.il 201 [])) rfl
 obtain ⟨a,ea,rfl⟩:=dv
 rw [p8.get ea] at e9; cases e9
 obtain ⟨t8,rfl⟩:=du
 have w1:IntsAre Ws (ρ.l 201++[]):=w1
 rw [List.append_nil] at w1
 obtain ⟨tq,hq⟩:=jC w1 hb
 apply ng;clear ng
 have l:h8.IsList a9 Ws.toArray:=(At.pl (w2.le (k:=fun o e=>S8.kp _ _ (S8.og _ _ e)))).lst
 have e8:(IE.v 8).den ρ=(b:Int):=v8
 refine aa e8 ?_
 refine tail_any (s:=⟨h8,gs,dr,n8,os⟩) l.typeIs slot_list_getitem.lookup (wpAny_getItem_list (s:=⟨h8,gs,dr,n8,os⟩) l (by (first | decide | lia | omega)) (by have:=(List.getElem?_eq_some_iff.mp hb).1; (first | decide | lia | omega)) (x:=.int q0 tq) (by simpa using hq) ?_) (dG rfl _ _)
 refine oy HH csc (C7 w.params _ p) RR S8 fun X h9 as9 n9 S9 p9 dx=>?_
 refine ma (a:=.int (.c q0)) (b:=.int (.c p)) (s:=gw ((S' "place",.int (.c p))::ls)) (post:=fun f s=>f = .rt (.int (.c (q0 + p)))/\s=gw ((S' "place",.int (.c p))::ls)) (k:=fun v s=>.leaf (.rt v) s) (by rw [B9]; exact ⟨rfl,rfl⟩) S9 ⟨tq,rfl⟩ dx fun v Z s1 h10 as10 n10 y S10 p10 dz=>?_
 apply bc;intro ng
 obtain ⟨y1,y2⟩:=y
 cases y1
 subst y2
 obtain ⟨t',rfl⟩:=dz
 apply ng;clear ng
 exact q t' h10 n10 as10 _ S10 (((p7.trans p8).trans p9).trans p10)
end
theorem D7 {r1 r2:Rho} {xw:Addr} (e:r1=r2):bD r1 r2 (Es xw):=by
 subst e
 exact ⟨rfl,rfl,rfl,rfl,rfl,rfl,rfl,rfl,rfl,rfl,rfl,rfl,rfl,rfl,rfl,rfl,rfl,rfl,rfl,rfl⟩
def MV (ρ0:Rho) (out:List Int) (q0:Int) (i:Nat) (Gi:Gr) (ρ:Rho) (s:St) (Us:List Value):Prop:=ρ=ρ0/\s=gw s.ls/\IntsAre Us ((out.take i).map (q0 + ·))
section
variable {w:World} {A:Around} {gs:Array GenState} {dr:Drawn} {os:OsState} {G:Gr} {F:List Addr} {bs bs2:List Int} {nds nds2:List Nd} {env:Env} {h:Heap} {n:Nat} {as:List Addr} {b e:Nat} {gap:Int} {xw:Addr}
set_option tactic.hygienic true
theorem EY {x c md u v:Int} (HB0:HB w (OG w G)) (S:SR w (cK bs nds gap b e xw (bS x c md (ad nds).n gap b e u v (PV nds gap))) (OG w G) G env h (bH xw) as) (D:Drawn' w G F bs nds) (hg : -9830400<=gap/\gap<=9830400) (RD:RunD nds bs bs2 nds2 b e) (Wi:Within w G F bs (aF nds b e) b e xw) (esc:env.scope=eY w.params) (R:Room A 200) {Q:Flow->Shared->Prop} {E:Value->Shared->Prop}
  (q:∀G' h' n' as',be G G'->HB w (OG w G')->SR w (cK bs nds gap b e xw (bS x c md (ad nds).n gap b e u v (PV nds gap))) (OG w G') G' env h' (bH xw) as'->Drawn' w G' F bs nds->wpAny (model pr w) A (execs ((dU w.params).drop 17) env) Q E ⟨h',gs,dr,n',os⟩) :
  wpAny (model pr w) A (execs ((dU w.params).drop 16) env) Q E ⟨h,gs,dr,n,os⟩:=by
 have hl:=D.len
 have hhi:=D.hi
 have hbn:=RD.hb
 have HH:∀{ρ:Rho},H2 w ρ (OG w G) aA 2:=H2.no HB0
 have RR:Room A (12 + 2):=R.le (by (first | decide | lia | omega))
 have v8:(cK bs nds gap b e xw (bS x c md (ad nds).n gap b e u v (PV nds gap))).v 8=(b:Int):=rfl
 have l201:(cK bs nds gap b e xw (bS x c md (ad nds).n gap b e u v (PV nds gap))).l 201=av (aI (ad nds) gap) nds:=rfl
 have l2013:(cK bs nds gap b e xw (bS x c md (ad nds).n gap b e u v (PV nds gap))).l 2013=((av (aI (ad nds) gap) nds).take (e + 1)).drop b:=rfl
 have isl:(CE.isl 2013 201 (some (.v 8)) (some (.add (.v 9) (.c 1)))).den (cK bs nds gap b e xw (bS x c md (ad nds).n gap b e u v (PV nds gap))) :=
  ⟨by show (0:Int)<=b; (first | decide | lia | omega),by show (0:Int)<=e + 1; (first | decide | lia | omega),rfl,by refine aa l201 (aa bV ?_); (first | decide | lia | omega)⟩
 generalize cK bs nds gap b e xw (bS x c md (ad nds).n gap b e u v (PV nds gap))=ρ at S q v8 l201 l2013 isl
 have rs:=qs (gap:=gap) D hg RD
 apply bc;intro ng
 obtain ⟨q0,hq0⟩:∃q0,(av (aI (ad nds) gap) nds)[b]? = some q0:=⟨_,List.getElem?_eq_getElem (by refine aa bV ?_; (first | decide | lia | omega))⟩
 have gq:(av (aI (ad nds) gap) nds).getD b 0=q0:=by rw [List.getD,hq0]; rfl
 rw [gq] at rs
 have lrun:(aF nds b e).length<=9:=by unfold aF; refine aa List.length_drop (aa List.length_take ?_); (first | decide | lia | omega)
 obtain ⟨aw,la,bx⟩:=Wi.bx
 apply ng;clear ng
 rw [vm]
 apply bc;intro ng
 obtain ⟨c1,c2,c3⟩:=Jr w.params
 obtain ⟨Res,r1,r2⟩:=tE (w:=w) (px:=aR (CO (uT w.params))) (elt:=Bp w.params) (iter:=Ce w.params) (pos:=vq (uT w.params)) c1 c2 c3 S.cc
 apply ng;clear ng
 refine wpAny_execs_cons (wpAny_If (wpAny_isTrue_Compare1 (r2 (ju (I4 w.params) (Eg w.params).1 (oy HH esc (J9 w.params xw) RR S fun V h1 as1 n1 S1 p1 dv=>⟨dv,?_⟩))) (Eg w.params).2))
 refine cR (post:=fun f s=>f = .rt (.glb (.ref xw))/\s=bH xw) (k:=k1) (HH.run 12) RR (by refine aa esc ?_; exact (congrArg (fun t=>Tr.ok _ _ t) (J1 w.params xw k1)).mpr ⟨rfl,rfl⟩) S1 fun vs1 Ws s2 h2 as2 n2 y2 S2 p2 dvs hws=>⟨S2.k,?_⟩
 clear hws
 apply bc;intro ng
 obtain ⟨rfl,rfl⟩:=sH (s0:=bH xw) y2
 apply ng;clear ng
 cases dvs; rename_i d1 dvs; cases dvs
 have d1:_=_:=d1
 apply bc;intro ng
 subst d1
 apply ng;clear ng
 have f3:=j6 (m6 (m3 (b:=b) (e:=e) D)) lrun
 refine o4 (g:=G) (F:=F) S2.wd S2.kp D.fo ⟨la.pl,(m3 (b:=b) (e:=e) D).mono fun zw zw ⟨b,e,a,b1,_⟩=>⟨b,e,a,b1⟩⟩ bx (cH f3 (by (first | decide | lia | omega)) (by (first | decide | lia | omega))) (by (first | decide | lia | omega)) (R.le (by (first | decide | lia | omega))) fun V3 h3 n3 xs C3 dv3=>?_
 apply bc;intro ng
 obtain ⟨y,ey,rfl⟩:=dv3
 obtain ⟨⟨Vs,i1,i2⟩,own3⟩:=C3.ob 5 _ y (rfl:LW[5]? = some (.il 0 [])) ey
 have own3:h2.get? y=none:=own3 rfl
 have i1:IntsAre Vs (av (aI (ad (aF nds b e)) 0) (aF nds b e)):=by
  have i1:IntsAre Vs ((bw (aI (ad (aF nds b e)) 0) (aF nds b e)).out++[]):=i1
  rw [List.append_nil,cj] at i1; exact i1
 have S3:=S2.stay (h':=h3) fun a o e=>C3.kp a o e
 obtain ⟨S3w,le3⟩:=S3.wide
 apply ng;clear ng
 have aty:At (dB h3 env.locals (bH xw).ob as2) y (.pl Vs):=by
  apply bc;intro ng
  obtain ⟨o,e1,e2⟩:=i2
  apply ng;clear ng
  refine ⟨o,?_,e2⟩
  unfold dB
  rw [if_neg]
  ·exact e1
  ·rintro (z | z)
   ·obtain ⟨fn,⟨oL,es,ep,l2,l3⟩,_⟩:=S2.lc
    rw [<- z,own3] at l2; exact ap l2
   ·obtain ⟨j,oj,z1,z2,z3⟩:=dA.mp z
    apply bc;intro ng
    obtain ⟨u,eu⟩:=((S2.ob j oj y z1 z3).1).ex z2
    apply ng;clear ng
    rw [own3] at eu; exact ap eu
 generalize dB h3 env.locals (bH xw).ob as2=GW at S3w le3 aty
 have hlist:h3.IsList y Vs.toArray:=(aty.pl.le (S3w.kp _)).lst
 refine wpAny_pyIter_list (s:=⟨h3,gs,dr,n3,os⟩) hlist ?_
 apply bc;intro ng
 obtain ⟨off,gi⟩:=jo S3w
 apply ng;clear ng
 have S4:=S3w.stay (h':=h3.push { cls:=.type "list_iterator",data:=.fields #[.ref y,rawInt 0] }) fun zw zw e=>Heap.get?_push_of_some _ e
 have j0:(h3.push { cls:=.type "list_iterator",data:=.fields #[.ref y,rawInt 0] }).IsListIter h3.objs.size y 0:=⟨_,Heap.get?_push_size _ rfl,rfl,rfl⟩
 show Cr _ _ _ _ _ _ _ _ _ _ _ _ _ _ ⟨h3.push { cls:=.type "list_iterator",data:=.fields #[.ref y,rawInt 0] },gs,dr,n3,os⟩
 generalize h3.push { cls:=.type "list_iterator",data:=.fields #[.ref y,rawInt 0] }=h4 at S4 j0
 generalize h3.objs.size=it at off gi j0
 have hcc:∀x i,Ai.lookup x=some i->∃a,as2[i]? = some a/\Res.lookup x=some a:=fun x i e=>let ⟨b,z1,z2⟩:=r1 x i e; ⟨b,p2.get (p1.get z1),z2⟩
 have lv:=eF i1
 rw [bV] at lv
 apply bc;intro ng
 obtain ⟨fL,⟨oL,es,ep,l2,l3,l4⟩,lk⟩:=id S4.lc
 apply ng;clear ng
 refine zd (d:=0) (fx:=(List.range 10).zip as2) (N:=Vs.length) (R.le (m:=0) (by (first | decide | lia | omega))) c1 hcc S4 (Nxt.list aty.pl) j0 (by (first | decide | lia | omega)) gi off (MV ρ (av (aI (ad (aF nds b e)) 0) (aF nds b e)) q0) (fun G' le=>⟨rfl,rfl,by refine aa List.take_zero ?_; exact .nil⟩) (i8.mpr fun i a zw e=>e) ?_ ?_
 ·rintro i G1' G' ρ' s Us cenv h5 n5 as5 V ac hi hV zq28 gg g1 fr ex hL lac nia csc nel S5 fxk T E1 E2 qT
  apply bc;intro ng
  obtain ⟨rfl,hs,hT⟩:=zq28
  rw [hs] at S5
  obtain ⟨p,t,hp,rfl⟩:=lU i1 hV
  apply ng;clear ng
  refine xR (b:=b) (q0:=q0) (p:=p) (t:=t) HB0 (R.le (by (first | decide | lia | omega))) (by refine aa csc (aa esc ?_); rfl) S5 v8 (by refine aa l201 ?_; exact hq0) (by refine aa l201 (aa bV ?_); (first | decide | lia | omega)) fun t' h6 n6 as6 ls' S6 p6=>?_
  refine qT _ _ _ h6 n6 as6 G' (fun zw zw e=>e) ⟨rfl,rfl,?_⟩ S6 fun p m=>p6.get (fxk p m)
  refine aa List.take_add_one (aa hp (aa List.map_append ?_))
  exact jp hT
 ·rintro ρ' s' h' n' as' G' ac Us zq29 gg back fxk la of ga
  apply bc;intro ng
  obtain ⟨rfl,hs,hT⟩:=zq29
  apply ng;clear ng
  have fz:=i8.mp fxk
  have ob':s'.ob=lV:=by refine aa hs ?_; rfl
  rw [ob'] at back of
  have S5:=back (qN xw) rj (fun x v e=>⟨v,e,fun V d=>by
   cases v <;> first | exact d | (obtain ⟨a,ea,z⟩:=d; exact ⟨a,fz _ a (by have:=(List.getElem?_eq_some_iff.mp ea).1; have sz:as2.length=10:=S2.sz; (first | decide | lia | omega)) ea,z⟩)⟩) fun x i e=>⟨i,e,fun a ea=>fz i a (by have:=(List.getElem?_eq_some_iff.mp ea).1; have sz:as2.length=10:=S2.sz; (first | decide | lia | omega)) ea⟩
  have S5:SR w ρ' (OG w G) (strip [env.locals] G') env h' (bH xw) as':=S5
  have fr:∀a∈[ac],strip [env.locals] G' a=none:=fun a m=>by refine aa (List.mem_singleton.mp m) ?_; exact ga
  have S6:=S5.pin (l:=[ac]) of fr
  have acG:∀o,h'.get? ac=some o->(Gr.add (strip [env.locals] G') h' [ac]) ac=some o:=fun o e=>by unfold Gr.add; refine aa (if_pos (.head _)) ?_; exact e
  have leA:=be.add (h:=h') fr
  refine qk (ρ':=ρ') HH esc (GY w.params xw) (R.le (by (first | decide | lia | omega))) S6 ⟨isl,D7 rfl⟩ fun V h7 as7 n7 S7 p7 dv=>?_
  generalize (Mu.map fun j=>as7.getD j 0)=as8 at S7 dv
  apply bc;intro ng
  obtain ⟨z,ez,rfl⟩:=dv
  obtain ⟨⟨Zs,z1,z2⟩,-⟩:=S7.ob 10 (.il 2013 []) z rfl ez
  apply ng;clear ng
  have z1:IntsAre Zs (ρ'.l 2013++[]):=z1
  rw [List.append_nil,l2013,<- rs] at z1
  rw [List.take_of_length_le (by refine aa lv (aa bV ?_); exact Nat.le_refl _)] at hT
  have la7:At h7.get? ac (.pl Us):=la.le fun o e=>S7.kp _ _ (acG o e)
  refine iX (op:=.NotEq) (.inr rfl) (by have:=R.un; (first | decide | lia | omega)) la7.pl z2.pl ((eF hT).trans (eF z1).symm) (fun j h1 h2=>kl hT z1 j h1 h2) (wpAny_truthy_bool ?_)
  refine wpAny_execs_nil ?_
  have S8:=S7.re (ρ':=ρ') (s':=bH xw) (List.range 10) (Ey xw) (zx rfl rfl rfl)
  generalize ((List.range 10).map fun j=>as8.getD j 0)=as9 at S8
  have S9:=S8.grow k6
  have gl:=S8.growLe k6
  have e3:({ bH xw with ob:=gX k6 0 (bH xw).ob }:St)=bH xw:=by
   show ({ bH xw with ob:=gX k6 0 lV }:St)=bH xw
   refine aa Fk ?_; rfl
  rw [e3] at S9
  have l3:be G (mu h7 env.locals (k6.filterMap (bX (bH xw).ob as9))):=fun a o e=>gl a o (leA a o (gg a o (le3 a o e)))
  exact q _ h7 n7 as9 l3 (let ⟨hb,W,kb⟩:=HB0; ⟨hb,W,fun a o e=>l3 a o (kb a o e)⟩) S9 (D.le l3)
set_option tactic.hygienic false
end
theorem qC (P:Params):(dU P).drop 17=jk P 17 4:=by kernel_rfl
theorem kM:∀l:List Nd,(l.flatMap Nd.flat).length<=2 * l.length
 | []=>Nat.le_refl _
 | ⟨k,a⟩::r=>by
  refine aa List.flatMap_cons (aa List.length_append (aa List.length_cons ?_))
  have:=kM r
  have h:(Nd.flat ⟨k,a⟩).length<=2:=by cases k <;> simp [Nd.flat]
  (first | lia | omega)
noncomputable def MT (bs ts:List Int) (nds:List Nd) (gap:Int) (k:Nat):List Int :=
 if k=1 then bs else if k=5 then ts else if k=201 then av (aI (ad nds) gap) nds else if k=205 then av (aI (ad nds) gap) (nds.flatMap Nd.flat) else []
noncomputable def kx (bs ts:List Int) (nds:List Nd) (gap:Int) (vs:List Int):Rho:=iP vs (MT bs ts nds gap) (fun zw=>nds.flatMap Nd.flat) fun zw=>aI (ad nds) gap
noncomputable def kQ (L:Int) (r:Rho):Rho:=⟨fun i=>if i=701 then L else if i=705 then L else r.v i,r.f,r.l⟩
theorem MZ {ρ ρ':Rho} {xw:Addr} {md own gap:Int} (v3:ρ.v 3=md) (v5:ρ.v 5=own) (v6:ρ.v 6=gap) (S:ρ.l 5≠[]->Same ρ 5 md own gap) (K:SetK ρ 5) (hm:md=0\/md=1) (hg : -9830400<=gap/\gap<=9830400) (ht : -72<=own/\own<=35100000)
  (c1:(CE.last 205 (.v 705)).den ρ) (c2:(CE.last 201 (.v 701)).den ρ) (c3:ρ.v 705=ρ.v 701):(Eu xw).den ρ ρ':=by
 exact ⟨fun zw=>trivial,fun hn=>mO (X:=eC) v3 v5 v6 (S hn) hm hg ht fun e h3 he s=>i5 h3 he (mB s (mV s ⟨K.s,K.o,K.p,K.q⟩ ⟨c1,c2,fun zw=>trivial,fun z=>z c3⟩))⟩
section
variable {w:World} {A:Around} {gs:Array GenState} {dr:Drawn} {os:OsState} {G:Gr} {F:List Addr} {bs bs2:List Int} {nds nds2:List Nd} {env:Env} {h:Heap} {n:Nat} {as:List Addr} {b e:Nat} {gap:Int} {xw:Addr}
theorem uX {ρ:Rho} {cs:List Nat} {N:Nat->List Nd} {B:Nat->Bx} (h30:ρ.f 30=bt) (h31:ρ.f 31=bY) (L:LawE w G F ρ cs N B):ay w ρ (OG w G) (uO cs) 81 :=
 ay.or (ay.le (d:=40) (eD h30 h31) (by (first | decide | lia | omega))) (ay.or (sX L) (ay.le (d:=41) (rP L) (by (first | decide | lia | omega))))
theorem ED {x c md u v:Int} (hmd:md=0\/md=1) (HB0:HB w (OG w G)) (S:SR w (cK bs nds gap b e xw (bS x c md (ad nds).n gap b e u v (PV nds gap))) (OG w G) G env h (bH xw) as) (D:Drawn' w G F bs nds) (hg : -9830400<=gap/\gap<=9830400) (esc:env.scope=eY w.params) (R:Room A 200) {Q:Flow->Shared->Prop} {E:Value->Shared->Prop}
  (q:∀h' n',be G h'.get?->Q (.ret (.bool true)) ⟨h',gs,dr,n',os⟩) :
  wpAny (model pr w) A (execs ((dU w.params).drop 17) env) Q E ⟨h,gs,dr,n,os⟩:=by
 have hl:=D.len
 have hhi:=D.hi
 have it:All2 (fun V nd=>∃x,V = .ref x/\bP G F x nd/\nd.ok) (bs.map ak) nds:=D.it.mono fun zw zw ⟨b,e,a,b1,_⟩=>⟨b,e,a,b1⟩
 apply bc;intro ng
 obtain ⟨ps,hps,FL⟩:=EC it
 have oks:∀p∈ps,p.1.ok:=fun p m=>by
  obtain ⟨i,ei⟩:=List.mem_iff_getElem?.mp m
  have e2:nds[i]? = some p.1:=by refine aa (Eq.symm hps) (aa (List.getElem?_map) (aa ei ?_)); rfl
  obtain ⟨V,_,b,_,_,ok⟩:=it.rget e2
  exact ok
 have itf:=kN D.fo.len FL oks
 rw [hps] at itf
 obtain ⟨ts,hts⟩:∃ts,ts=ps.flatMap (·.2):=⟨_,rfl⟩
 rw [<- hts] at itf
 have fl:=kM nds
 have lts:=itf.len'
 rw [List.length_map] at lts
 have sB:(aI (ad nds) gap).ok:=cH D.fit (by (first | decide | lia | omega)) (by (first | decide | lia | omega))
 obtain ⟨L,hL⟩:∃L,(av (aI (ad nds) gap) nds).getLast? = some L:=⟨_,fN sB nds⟩
 apply ng;clear ng
 have hL2:=(qL sB nds).trans hL
 have Lw:LawE w G F (kx bs ts nds gap (bS x c md (ad nds).n gap b e u v (PV nds gap))) [5] (fun zw=>nds.flatMap Nd.flat) fun zw=>aI (ad nds) gap:=by
  have one:∀k∈[5],k=5:=fun k m=>List.mem_singleton.mp m
  refine hQ D.fo (fun k m=>?_) (fun k m=>?_) (fun k m=>by (first | decide | lia | omega)) (fun k m=>sB) fun k m=>?_
  ·refine aa (one k m) ?_; exact itf
  ·rw [fU]; exact D.fit.up (by (first | decide | lia | omega))
  ·rw [one k m,cj]; rfl
 have Lw2:LawE w G F (kQ L (kx bs ts nds gap (bS x c md (ad nds).n gap b e u v (PV nds gap)))) [5] (fun zw=>nds.flatMap Nd.flat) fun zw=>aI (ad nds) gap:=⟨Lw.fo,Lw.it,Lw.fit,Lw.len,Lw.hp,Lw.bx,Lw.pl⟩
 have lo:∀i,i < 701->(kQ L (kx bs ts nds gap (bS x c md (ad nds).n gap b e u v (PV nds gap)))).v i=(kx bs ts nds gap (bS x c md (ad nds).n gap b e u v (PV nds gap))).v i:=fun i hi=>by
  show (if i=701 then L else if i=705 then L else _)=_
  exact aa (if_neg (by (first | decide | lia | omega))) (aa (if_neg (by (first | decide | lia | omega))) rfl)
 have S0:=S.re (ρ':=kQ L (kx bs ts nds gap (bS x c md (ad nds).n gap b e u v (PV nds gap)))) (s':=bH xw) (List.range 10) (zc xw) (rr (fun i hi=>(lo i (by (first | decide | lia | omega))).symm) rfl rfl)
 have HW:H2 w (kQ L (kx bs ts nds gap (bS x c md (ad nds).n gap b e u v (PV nds gap)))) (OG w G) (CI HS (uO [5])) 81 :=
  ⟨HB0,by (first | decide | lia | omega),ay.or (ay.le (d:=60) (Ad (F:=F) (ps:=ps) D.fo.len FL (by refine aa (Eq.symm hts) ?_; (first | decide | lia | omega)) hts) (by (first | decide | lia | omega))) (uX rfl rfl Lw2)⟩
 have sm:ts≠[]->Same (kx bs ts nds gap (bS x c md (ad nds).n gap b e u v (PV nds gap))) 5 md (ad nds).n gap:=fun hne=>ka (nds:=nds) (fU nds) (by
  have:=D.lo
  show (nds.flatMap Nd.flat).isEmpty=nds.isEmpty
  have h1:nds.flatMap Nd.flat≠[]:=fun z=>by rw [z] at lts; exact hne (List.eq_nil_of_length_eq_zero lts)
  have h2:nds≠[]:=fun z=>by rw [z] at this; simp at this
  exact aa (List.isEmpty_eq_false_iff.mpr h1) (aa (List.isEmpty_eq_false_iff.mpr h2) rfl)) rfl
 have sk:SetK (kx bs ts nds gap (bS x c md (ad nds).n gap b e u v (PV nds gap))) 5:=ph rfl
 have rng:∀j,j∈[0,1,13,14,15,16,17,18,19]->20 + j < 701:=by decide
 have v3:=(lo 3 (by (first | decide | lia | omega))).trans (show _=md from rfl)
 have v5:=(lo 5 (by (first | decide | lia | omega))).trans (show _=(ad nds).n from rfl)
 have v6:=(lo 6 (by (first | decide | lia | omega))).trans (show _=gap from rfl)
 rw [qC]
 refine ua (ρ':=kQ L (kx bs ts nds gap (bS x c md (ad nds).n gap b e u v (PV nds gap)))) HW esc (Gh w.params xw) (R.le (by (first | decide | lia | omega))) S0 (MZ (md:=md) (own:=(ad nds).n) (gap:=gap) v3 v5 v6 (fun hn=>⟨fun z j hj=>((sm hn).a1 z j hj).trans (lo _ (rng j hj)).symm,fun z j hj=>((sm hn).a0 z j hj).trans (lo _ (rng j hj)).symm⟩)
  ⟨sk.s.trans (lo 34 (by (first | decide | lia | omega))).symm,sk.o.trans (lo 35 (by (first | decide | lia | omega))).symm,sk.p.trans (lo 36 (by (first | decide | lia | omega))).symm,sk.q.trans (lo 37 (by (first | decide | lia | omega))).symm⟩ hmd hg (by have:=D.fit.n; (first | decide | lia | omega)) ⟨hL2,?_⟩ ⟨hL,?_⟩ rfl) fun V h1 as1 n1 S1 p1 dv=>?_
 ·show (av (aI (ad nds) gap) (nds.flatMap Nd.flat)).length<=1000; refine aa bV ?_; (first | decide | lia | omega)
 ·show (av (aI (ad nds) gap) nds).length<=1000; refine aa bV ?_; (first | decide | lia | omega)
 ·have dv:V = .bool true:=dv
  subst dv
  exact q h1 n1 S1.kp
end
section
variable {w:World} {A:Around} {gs:Array GenState} {dr:Drawn} {os:OsState} {h:Heap} {n:Nat}
theorem uk {l:Addr} {Vs:List Value} {ns:List Int} (W:Wd w h) (L:At h.get? l (.lst Vs)) (I:IntsAre Vs ns) (hz:Vs.length<=1000) (R:Room A 201) {Q:Value->Shared->Prop} {E:Value->Shared->Prop} (q:∀h' n',be h.get? h'.get?->Q (.bool true) ⟨h',gs,dr,n',os⟩) :
  wpAny (model pr w) A (call (.ref 904) [.ref l]) Q E ⟨h,gs,dr,n,os⟩:=by
 refine F9 W L I hz R fun A' env h1 n1 as1 R1 esc S1 E'=>?_
 refine CT ⟨h,W,fun zw zw e=>e⟩ S1 esc R1 fun G F bs nds x c h2 n2 as2 g1 S2 D hc=>?_
 have HB0:HB w (OG w G):=S2.bs
 refine Ge HB0 S2 D hc esc R1 fun gap x c h3 n3 as3 S3 hg hc=>?_
 refine C4 HB0 S3 D ?_ esc R1 fun G h4 n4 as4 g2 HB0 S4 D=>?_
 ·show (bS x c (kG ns) (ad nds).n gap 0 0 0 0 (PV nds gap)).getD (20 + 13) 0=(ad nds).n + gap
  rw [fE]
  show bK (ad nds) 1 gap=_
  unfold bK; rw [if_neg (by (first | lia | omega))]
 refine Gc HB0 S4 D hg hc esc R1 fun G h5 n5 as5 bs2 nds2 b e u v xw g3 HB0 S5 D RD Wi=>?_
 refine C6 (kj ns) HB0 S5 D hg RD Wi esc R1 fun h6 n6 as6 S6=>?_
 refine EY HB0 S6 D hg RD Wi esc R1 fun G h7 n7 as7 g4 HB0 S7 D=>?_
 exact ED (kj ns) HB0 S7 D hg esc R1 fun h8 n8 g5=>q h8 n8 fun a o e=>g5 a o (g4 a o (g3 a o (g2 a o (g1 a o e))))
end
theorem tA (P:Params):nsIn (K P) mainGlobals (Str.ofString "law")=some (some (.ref 904)):=by kernel_rfl
set_option tactic.hygienic true
theorem walk2:∀(d:DefRec) (kwd:List (Str×Expr)),defOf qv (Str.ofString "law")=some (d,kwd)->WalkO qv looseN (XL qv []) HK.says PySem.Challenge.rw_sq0063_01.row.toRowW d kwd fun f vs=>PySem.call f vs:=by
 intro d kwd hdk
 have hdk':∃pos,defOf qv (Str.ofString "law")=some (⟨Str.ofString "law",(gB (cI 102)).1,(gB (cI 102)).2.1,(gB (cI 102)).2.2,pos⟩,[]):=⟨_,rfl⟩
 obtain ⟨pos,hdk'⟩:=hdk'
 rw [hdk'] at hdk
 cases hdk
 intro w s₀ s₁ mg mb G Y fa o pm cd doc dV kV ho hd hcd hD hmg hg args vals as hpre hlay hrd hwl hlo
 have KX:=kIn_of Y
 refine Ground.open G ?_
 intro T B D TE TW
 wrow_args hpre hlay hrd hwl hlo
 rename_i ns hs hlay0 hLa hr1 hl2 as4 as3 l Vs as0 hL ra w1 r0 hI hr hlen htr
 have e904:fa=904:=by
  have z:=mg_of KX T.g (tA w.params)
  have z2:mg (Str.ofString "law")=some (.ref fa):=hmg
  rw [z2] at z
  cases z; rfl
 subst e904
 have W:Wd w s₁.heap:=⟨KX,_,_,_,_,_,T⟩
 have hn:Vs.length=ns.length:=eF hI
 show wpAny (model pr w) callerA (call (.ref 904) [.ref l]) _ _ ⟨s₁.heap,s₁.gens,s₁.drawn,s₁.toks,s₁.os⟩
 refine uk W hL hI (by (first | lia | omega)) ⟨rfl,by decide,by decide⟩ fun h' n' k=>GoodW.toG ?_
 refine ⟨.inl ⟨_,.bool true,[],rfl,raisesW_false (by wrow_none_raised),.bool _,?_,unshared_nil⟩,k,rfl,hg⟩
 wrow_post
set_option tactic.hygienic false
theorem Fv:PySem.W.Fast.tw9446332074065402090 PySem.Challenge.rw_sq0063_01=true:=by kernel_rfl
theorem said1:PySem.Challenge.rw_sq0063_01.wellSaid=true:=(congrFun PySem.W.Fast.te9446332074065402090 _).trans Fv

end Mine
theorem PySem.Challenge.cw_sq0063_01_holds : PySem.Challenge.rw_sq0063_01.Holds := by
  refine holds_law Mine.said1 fun said => ?_
  refine PySem.W.holds_open (q := Mine.qv) (loose := Mine.looseN) (Xt := Mine.XtO) (XP := XL Mine.qv []) (Yf := Mine.HK.obs) (Ya := Mine.HK.val) (YP := Mine.HK.says) (N := 8000) Mine.left (Hook.of Mine.HK) (Hook.keeps Mine.HK) (fun s e => xl_of s (Bool.and_eq_true_iff.mp e).1) XL.keeps (by rfl) (by rfl) (by rfl) (fun s e => recFacts_of (Bool.and_eq_true_iff.mp e).2) ?hwr said Mine.okOpen ?hb ?hw ?hc
  case hw => w_witness2
  case hwr => rfl
  case hb => exact ⟨rfl, rfl, rfl, rfl, rfl, by decide +kernel⟩
  case hc => exact Mine.walk2 _ _ (by rfl)
