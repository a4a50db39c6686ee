import PyProof.Rows.All
import Wide.All
import OpenK.AllK
import Wide.FinOn
import PySem.Challenge.RW_ov0088_01
set_option Elab.async false
set_option linter.all false
set_option bootstrap.genMatcherCode false
set_option genSizeOfSpec false
set_option genSizeOf false
set_option genCtorIdx false
section
set_option maxRecDepth 100000
set_option maxHeartbeats 8000000
namespace Mine.H
open PySem PySem.W PySem.Calls PyProof.Rows
noncomputable abbrev pw : Program := PySem.Challenge.pw_ov0088_01
noncomputable def pb : List Stmt := behindTheImports pw
noncomputable def sn (k : Nat) : Stmt := pb.getD k (.Pass ⟨0, 0, 0, 0⟩)
noncomputable def mt (k j : Nat) : Stmt := match sn k with
  | .ClassDef _ _ _ b _ _ _ _ _ _ _ => b.getD j (.Pass ⟨0, 0, 0, 0⟩)
  | s => s
noncomputable def fd (st : Stmt) (ql : Option Str) (g : Addr) (d m c : Value) : FuncData := match st with
  | .FunctionDef n ps b _ _ _ sc _ q _ => { name := n, qualname := ql.getD q, params := ps, body := .stmts b, scope := sc, globals := g, closure := [], defaults := d, kwdefaults := .none, pyModule := m, code := c }
  | _ => { name := Str.empty, qualname := Str.empty, params := ⟨[], [], none, [], [], none, []⟩, body := .stmts [], scope := pw.main.scope, globals := g, closure := [], defaults := d, kwdefaults := .none, pyModule := m, code := c }
noncomputable abbrev s (x : String) (t : Nat) : Value := .str (Str.ofString x) t
noncomputable abbrev i (x : Nat) : Value := .int (x : Nat) 0
noncomputable abbrev r (a : Nat) : Value := .ref a
noncomputable abbrev y (x : String) : Value := .type x
noncomputable abbrev u (x : String) : Value := .builtin x
noncomputable abbrev o : Value := .none
noncomputable abbrev tu (l : List Value) : Obj := { cls := .type "tuple", data := .seq ⟨l⟩ }
noncomputable abbrev co (l : List Value) : Obj := { cls := .type "code", data := .fields ⟨l⟩ }
noncomputable abbrev nf (l : List Value) : Obj := { cls := .none, data := .fields ⟨l⟩ }
noncomputable abbrev fo (c : String) (l : List Value) : Obj := { cls := .type c, data := .fields ⟨l⟩ }
noncomputable abbrev fm (l : List (Option Value)) : Obj := { cls := .type "frame", slots := ⟨l⟩ }
noncomputable abbrev di (P : Params) (l : List (Params → DictEntry)) (n : Nat) : Obj := { cls := .type "dict", data := .dict ⟨l.map fun f => f P⟩ n }
noncomputable abbrev dn (P : Params) (l : List (Params → DictEntry)) (n : Nat) : Obj := { cls := .none, data := .dict ⟨l.map fun f => f P⟩ n }
noncomputable abbrev e (x : String) (t : Nat) (v : Value) (P : Params) : DictEntry := ⟨PyData.keyHash P (Str.ofString x), .str (Str.ofString x) t, v⟩
noncomputable abbrev ty (n : String) (b m : List Value) (ns : Nat) (q : String) (sub : List Value) (sl : List (Option Value)) : Obj := { cls := .type "type", data := .cls { name := Str.ofString n, bases := b, mro := m, ns := ns, qualname := Str.ofString q, subclasses := sub }, slots := ⟨sl⟩ }
noncomputable abbrev fa (st : Stmt) : Obj := { cls := .none, data := .func (fd st none 0 .none .none .none) }
noncomputable abbrev fq (st : Stmt) (q : String) : Obj := { cls := .none, data := .func (fd st (some (Str.ofString q)) 0 .none .none .none) }
noncomputable abbrev fb (st : Stmt) (d : Value) (m : String) (t c : Nat) : Obj := { cls := .type "function", data := .func (fd st none 3 d (s m t) (.ref c)) }
noncomputable abbrev fr (st : Stmt) (q : String) (d : Value) (m : String) (t c : Nat) : Obj := { cls := .type "function", data := .func (fd st (some (Str.ofString q)) 3 d (s m t) (.ref c)) }
noncomputable def m3 (nm : Value) : List (Params → DictEntry) := [e "__name__" 165 nm, e "__doc__" 166 o, e "__package__" 167 o, e "__loader__" 168 (u "__main__.__loader__#opaque"), e "__spec__" 169 o, e "__annotations__" 170 (r 6), e "__builtins__" 171 (r 4), e "__file__" 173 (s "/claim/cut.py" 172), e "__cached__" 174 o, e "_wall" 193 (r 21), e "NAN" 198 (r 22), e "INF" 201 (r 23), e "ZERO" 204 (r 24), e "gcd" 212 (r 31), e "make" 221 (r 38), e "from_int" 228 (r 45), e "is_na" 235 (r 52), e "is_finite" 242 (r 59), e "neg" 249 (r 66), e "to_whole" 257 (r 73), e "nearest_whole" 267 (r 80), e "exponent" 277 (r 87), e "compare" 287 (r 94), e "MOST_EXPONENT" 291 (.int (4096) 290), e "whole_text" 301 (r 101), e "special_text" 308 (r 108), e "scaled" 318 (r 115), e "significant" 328 (r 122), e "without_tail" 336 (r 129), e "scientific_text" 348 (r 136), e "fixed_text" 358 (r 143), e "measures" 371 (r 150), e "chosen_form" 388 (r 157), e "formed" 397 (r 164), e "common_texts" 403 (r 169), e "number_text" 412 (r 177), e "decimal_places" 421 (r 184), e "exact_text" 431 (r 191), e "digits_value" 441 (r 198), e "digit_run" 450 (r 205), e "exponent_value" 459 (r 212), e "powered" 468 (r 219), e "unsigned_number" 487 (r 226), e "parse_number" 499 (r 233), e "CoveError" 521 (r 243), e "Refusal" 546 (r 263), e "MOST_LENGTH" 550 (.int (1000000) 549), e "Null" 579 (r 282), e "Vector" 621 (r 311), e "room" 628 (r 322), e "integer" 635 (r 329), e "character" 642 (r 336), e "length" 650 (r 343), e "is_atomic" 657 (r 350), e "share" 664 (r 357), e "get_attr" 674 (r 364), e "label_text" 682 (r 371), e "level_at" 690 (r 378), e "label_texts" 696 (r 383), e "names_of" 702 (r 388), e "dim_of" 710 (r 395), e "dimnames_of" 716 (r 400), e "class_attr" 724 (r 407), e "MOST_INTEGER" 728 (.int (2147483647) 727), e "kind_order" 736 (r 414), e "common_kind" 746 (r 421), e "note" 754 (r 428), e "as_logical_text" 761 (r 435), e "double_to_integer" 770 (r 442), e "text_to_double" 780 (r 449), e "to_logical" 788 (r 456), e "to_integer" 797 (r 463), e "to_double" 806 (r 470), e "to_text" 814 (r 477), e "item_as" 824 (r 484), e "is_atomic_kind" 831 (r 491), e "list_item_as" 841 (r 498), e "refuse_type" 849 (r 505), e "as_vector_kind" 855 (r 510), e "with_names" 863 (r 517), e "as_kind" 869 (r 522), e "as_list" 876 (r 529), e "is_lacking" 886 (r 536), e "compare_items" 895 (r 543), e "check_sortable" 902 (r 550), e "compare_places" 918 (r 557), e "compare_keys" 931 (r 564), e "merge_runs" 945 (r 571), e "merge_sort" 951 (r 576), e "each_key" 957 (r 581), e "kept_places" 969 (r 588), e "order_by" 980 (r 596), e "is_factor" 989 (r 603), e "new_frame" 995 (r 608), e "plain_rows" 1002 (r 615), e "frame_rows" 1009 (r 622), e "column_names" 1015 (r 627), e "kept_attrs" 1024 (r 634), e "lacking" 1031 (r 641), e "pick_items" 1042 (r 648), e "joined_factor" 1058 (r 655), e "joined_column" 1064 (r 660), e "column_keys" 1072 (r 665), e "row_keys" 1078 (r 670), e "check_by" 1089 (r 677), e "matched_pairs" 1101 (r 684), e "lone_places" 1107 (r 689), e "all_pairs" 1118 (r 696), e "merged_pairs" 1130 (r 703), e "key_column" 1144 (r 710), e "other_names" 1156 (r 717), e "sort_key" 1163 (r 724), e "merge_order" 1169 (r 729), e "merge_frames" 1175 (r 735), e "_law_stream" 1188 (r 742), e "_law_side" 1194 (r 747), e "_law_lines" 1200 (r 752), e "_law_ascends" 1206 (r 757), e "law" 1212 (r 762)]
noncomputable def l12 : List Value := [(i 1), (i 0), (r 20), (i 8), (i 0), (r 30), (i 12), (i 0), (r 37), (i 22), (i 0), (r 44), (i 26), (i 0), (r 51), (i 28), (i 0), (r 58), (i 30), (i 0), (r 65), (i 34), (i 0), (r 72), (i 39), (i 0), (r 79), (i 45), (i 0), (r 86), (i 56), (i 0), (r 93), (i 76), (i 0), (r 100), (i 87), (i 0), (r 107), (i 95), (i 0), (r 114), (i 100), (i 0), (r 121), (i 109), (i 0), (r 128), (i 114), (i 0), (r 135), (i 121), (i 0), (r 142), (i 129), (i 0), (r 149), (i 136), (i 0), (r 156), (i 156), (i 0), (r 163), (i 163), (i 0), (r 168), (i 167), (i 0), (r 176), (i 169), (i 0), (r 183), (i 181), (i 0), (r 190), (i 193), (i 0), (r 197), (i 198), (i 0), (r 204), (i 202), (i 0), (r 211), (i 212), (i 0), (r 218), (i 222), (i 0), (r 225), (i 254), (i 0), (r 232), (i 272), (i 0), (r 239), (i 274), (i 0), (r 252), (i 280), (i 0), (r 271), (i 285), (i 0), (r 292), (i 296), (i 0), (r 321), (i 300), (i 0), (r 328), (i 302), (i 0), (r 335), (i 304), (i 0), (r 342), (i 315), (i 0), (r 349), (i 317), (i 0), (r 356), (i 322), (i 0), (r 363), (i 326), (i 0), (r 370), (i 334), (i 0), (r 377), (i 338), (i 0), (r 382), (i 344), (i 0), (r 387), (i 360), (i 0), (r 394), (i 365), (i 0), (r 399), (i 370), (i 0), (r 406), (i 377), (i 0), (r 413), (i 382), (i 0), (r 420), (i 388), (i 0), (r 427), (i 391), (i 0), (r 434), (i 397), (i 0), (r 441), (i 405), (i 0), (r 448), (i 411), (i 0), (r 455), (i 421), (i 0), (r 462), (i 429), (i 0), (r 469), (i 435), (i 0), (r 476), (i 443), (i 0), (r 483), (i 457), (i 0), (r 490), (i 459), (i 0), (r 497), (i 465), (i 0), (r 504), (i 467), (i 0), (r 509), (i 481), (i 0), (r 516), (i 485), (i 0), (r 521), (i 492), (i 0), (r 528), (i 495), (i 0), (r 535), (i 497), (i 0), (r 542), (i 505), (i 0), (r 549), (i 508), (i 0), (r 556), (i 521), (i 0), (r 563), (i 527), (i 0), (r 570), (i 539), (i 0), (r 575), (i 551), (i 0), (r 580), (i 555), (i 0), (r 587), (i 566), (i 0), (r 595), (i 576), (i 0), (r 602), (i 578), (i 0), (r 607), (i 582), (i 0), (r 614), (i 584), (i 0), (r 621), (i 588), (i 0), (r 626), (i 591), (i 0), (r 633), (i 599), (i 0), (r 640), (i 603), (i 0), (r 647), (i 613), (i 0), (r 654), (i 629), (i 0), (r 659), (i 646), (i 0), (r 664), (i 653), (i 0), (r 669), (i 659), (i 0), (r 676), (i 667), (i 0), (r 683), (i 676), (i 0), (r 688), (i 681), (i 0), (r 695), (i 688), (i 0), (r 702), (i 697), (i 0), (r 709), (i 704), (i 0), (r 716), (i 710), (i 0), (r 723), (i 712), (i 0), (r 728), (i 723), (i 0), (r 734), (i 751), (i 0), (r 741), (i 762), (i 0), (r 746), (i 777), (i 0), (r 751), (i 785), (i 0), (r 756), (i 788), (i 0), (r 761)]
noncomputable def o2 (P : Params) : Obj := dn P [e "type.__subclasses__.Exception.0" 518 (i 243), e "type.__subclasses__.Exception.n" 519 (i 1)] 2
noncomputable def o3 (P : Params) : Obj := di P ((m3 (s "law_ov0088_01" 1176)).take 119) 119
noncomputable def o12 (P : Params) : Obj := nf (l12.take 312)
noncomputable def o15 (P : Params) : Obj := tu []
noncomputable def o17 (P : Params) : Obj := tu [(s "k" 190)]
noncomputable def o18 (P : Params) : Obj := tu []
noncomputable def o20 (P : Params) : Obj := co [(s "_wall" 187), (s "_wall" 188), (s "/claim/cut.py" 189), (i 1), (i 1), (i 0), (i 0), (i 3), (r 15), (.bool true), (i 181), (r 16), o, (r 17), (r 18), (r 19), (i 191), (i 1), (s "/claim/cut.py" 192)]
noncomputable def o21 (P : Params) : Obj := fb (sn 0) o "__main__" 164 20
noncomputable def o22 (P : Params) : Obj := tu [(.int (0) 196), (.int (0) 197)]
noncomputable def o23 (P : Params) : Obj := tu [(.int (1) 199), (.int (0) 200)]
noncomputable def o24 (P : Params) : Obj := tu [(.int (0) 202), (.int (1) 203)]
noncomputable def o25 (P : Params) : Obj := tu []
noncomputable def o27 (P : Params) : Obj := tu [(s "a" 208), (s "b" 209)]
noncomputable def o28 (P : Params) : Obj := tu []
noncomputable def o30 (P : Params) : Obj := co [(s "gcd" 205), (s "gcd" 206), (s "/claim/cut.py" 207), (i 8), (i 2), (i 0), (i 0), (i 3), (r 25), (.bool true), (i 181), (r 26), o, (r 27), (r 28), (r 29), (i 210), (i 8), (s "/claim/cut.py" 211)]
noncomputable def o31 (P : Params) : Obj := fb (sn 5) o "vectorcove.rational" 194 30
noncomputable def o32 (P : Params) : Obj := tu []
noncomputable def o34 (P : Params) : Obj := tu [(s "n" 216), (s "d" 217), (s "common" 218)]
noncomputable def o35 (P : Params) : Obj := tu []
noncomputable def o37 (P : Params) : Obj := co [(s "make" 213), (s "make" 214), (s "/claim/cut.py" 215), (i 12), (i 2), (i 0), (i 0), (i 3), (r 32), (.bool true), (i 181), (r 33), o, (r 34), (r 35), (r 36), (i 219), (i 12), (s "/claim/cut.py" 220)]
noncomputable def o38 (P : Params) : Obj := fb (sn 6) o "vectorcove.rational" 194 37
noncomputable def o39 (P : Params) : Obj := tu []
noncomputable def o41 (P : Params) : Obj := tu [(s "n" 225)]
noncomputable def o42 (P : Params) : Obj := tu []
noncomputable def o44 (P : Params) : Obj := co [(s "from_int" 222), (s "from_int" 223), (s "/claim/cut.py" 224), (i 22), (i 1), (i 0), (i 0), (i 3), (r 39), (.bool true), (i 181), (r 40), o, (r 41), (r 42), (r 43), (i 226), (i 22), (s "/claim/cut.py" 227)]
noncomputable def o45 (P : Params) : Obj := fb (sn 7) o "vectorcove.rational" 194 44
noncomputable def o46 (P : Params) : Obj := tu []
noncomputable def o48 (P : Params) : Obj := tu [(s "x" 232)]
noncomputable def o49 (P : Params) : Obj := tu []
noncomputable def o51 (P : Params) : Obj := co [(s "is_na" 229), (s "is_na" 230), (s "/claim/cut.py" 231), (i 26), (i 1), (i 0), (i 0), (i 3), (r 46), (.bool true), (i 181), (r 47), o, (r 48), (r 49), (r 50), (i 233), (i 26), (s "/claim/cut.py" 234)]
noncomputable def o52 (P : Params) : Obj := fb (sn 8) o "vectorcove.rational" 194 51
noncomputable def o53 (P : Params) : Obj := tu []
noncomputable def o55 (P : Params) : Obj := tu [(s "x" 239)]
noncomputable def o56 (P : Params) : Obj := tu []
noncomputable def o58 (P : Params) : Obj := co [(s "is_finite" 236), (s "is_finite" 237), (s "/claim/cut.py" 238), (i 28), (i 1), (i 0), (i 0), (i 3), (r 53), (.bool true), (i 181), (r 54), o, (r 55), (r 56), (r 57), (i 240), (i 28), (s "/claim/cut.py" 241)]
noncomputable def o59 (P : Params) : Obj := fb (sn 9) o "vectorcove.rational" 194 58
noncomputable def o60 (P : Params) : Obj := tu []
noncomputable def o62 (P : Params) : Obj := tu [(s "x" 246)]
noncomputable def o63 (P : Params) : Obj := tu []
noncomputable def o65 (P : Params) : Obj := co [(s "neg" 243), (s "neg" 244), (s "/claim/cut.py" 245), (i 30), (i 1), (i 0), (i 0), (i 3), (r 60), (.bool true), (i 181), (r 61), o, (r 62), (r 63), (r 64), (i 247), (i 30), (s "/claim/cut.py" 248)]
noncomputable def o66 (P : Params) : Obj := fb (sn 10) o "vectorcove.rational" 194 65
noncomputable def o67 (P : Params) : Obj := tu []
noncomputable def o69 (P : Params) : Obj := tu [(s "x" 253), (s "found" 254)]
noncomputable def o70 (P : Params) : Obj := tu []
noncomputable def o72 (P : Params) : Obj := co [(s "to_whole" 250), (s "to_whole" 251), (s "/claim/cut.py" 252), (i 34), (i 1), (i 0), (i 0), (i 3), (r 67), (.bool true), (i 181), (r 68), o, (r 69), (r 70), (r 71), (i 255), (i 34), (s "/claim/cut.py" 256)]
noncomputable def o73 (P : Params) : Obj := fb (sn 11) o "vectorcove.rational" 194 72
noncomputable def o74 (P : Params) : Obj := tu []
noncomputable def o76 (P : Params) : Obj := tu [(s "n" 261), (s "d" 262), (s "low" 263), (s "rest" 264)]
noncomputable def o77 (P : Params) : Obj := tu []
noncomputable def o79 (P : Params) : Obj := co [(s "nearest_whole" 258), (s "nearest_whole" 259), (s "/claim/cut.py" 260), (i 39), (i 2), (i 0), (i 0), (i 3), (r 74), (.bool true), (i 181), (r 75), o, (r 76), (r 77), (r 78), (i 265), (i 39), (s "/claim/cut.py" 266)]
noncomputable def o80 (P : Params) : Obj := fb (sn 12) o "vectorcove.rational" 194 79
noncomputable def o81 (P : Params) : Obj := tu []
noncomputable def o83 (P : Params) : Obj := tu [(s "x" 271), (s "n" 272), (s "d" 273), (s "e" 274)]
noncomputable def o84 (P : Params) : Obj := tu []
noncomputable def o86 (P : Params) : Obj := co [(s "exponent" 268), (s "exponent" 269), (s "/claim/cut.py" 270), (i 45), (i 1), (i 0), (i 0), (i 3), (r 81), (.bool true), (i 181), (r 82), o, (r 83), (r 84), (r 85), (i 275), (i 45), (s "/claim/cut.py" 276)]
noncomputable def o87 (P : Params) : Obj := fb (sn 13) o "vectorcove.rational" 194 86
noncomputable def o88 (P : Params) : Obj := tu []
noncomputable def o90 (P : Params) : Obj := tu [(s "x" 281), (s "y" 282), (s "left" 283), (s "right" 284)]
noncomputable def o91 (P : Params) : Obj := tu []
noncomputable def o93 (P : Params) : Obj := co [(s "compare" 278), (s "compare" 279), (s "/claim/cut.py" 280), (i 56), (i 2), (i 0), (i 0), (i 3), (r 88), (.bool true), (i 181), (r 89), o, (r 90), (r 91), (r 92), (i 285), (i 56), (s "/claim/cut.py" 286)]
noncomputable def o94 (P : Params) : Obj := fb (sn 14) o "vectorcove.rational" 194 93
noncomputable def o95 (P : Params) : Obj := tu []
noncomputable def o97 (P : Params) : Obj := tu [(s "n" 295), (s "rest" 296), (s "row" 297), (s "part" 298)]
noncomputable def o98 (P : Params) : Obj := tu []
noncomputable def o100 (P : Params) : Obj := co [(s "whole_text" 292), (s "whole_text" 293), (s "/claim/cut.py" 294), (i 76), (i 1), (i 0), (i 0), (i 3), (r 95), (.bool true), (i 181), (r 96), o, (r 97), (r 98), (r 99), (i 299), (i 76), (s "/claim/cut.py" 300)]
noncomputable def o101 (P : Params) : Obj := fb (sn 17) o "vectorcove.numtext" 288 100
noncomputable def o102 (P : Params) : Obj := tu []
noncomputable def o104 (P : Params) : Obj := tu [(s "x" 305)]
noncomputable def o105 (P : Params) : Obj := tu []
noncomputable def o107 (P : Params) : Obj := co [(s "special_text" 302), (s "special_text" 303), (s "/claim/cut.py" 304), (i 87), (i 1), (i 0), (i 0), (i 3), (r 102), (.bool true), (i 181), (r 103), o, (r 104), (r 105), (r 106), (i 306), (i 87), (s "/claim/cut.py" 307)]
noncomputable def o108 (P : Params) : Obj := fb (sn 18) o "vectorcove.numtext" 288 107
noncomputable def o109 (P : Params) : Obj := tu []
noncomputable def o111 (P : Params) : Obj := tu [(s "x" 312), (s "e" 313), (s "digits" 314), (s "shift" 315)]
noncomputable def o112 (P : Params) : Obj := tu []
noncomputable def o114 (P : Params) : Obj := co [(s "scaled" 309), (s "scaled" 310), (s "/claim/cut.py" 311), (i 95), (i 3), (i 0), (i 0), (i 3), (r 109), (.bool true), (i 181), (r 110), o, (r 111), (r 112), (r 113), (i 316), (i 95), (s "/claim/cut.py" 317)]
noncomputable def o115 (P : Params) : Obj := fb (sn 19) o "vectorcove.numtext" 288 114
noncomputable def o116 (P : Params) : Obj := tu []
noncomputable def o118 (P : Params) : Obj := tu [(s "x" 322), (s "digits" 323), (s "e" 324), (s "n" 325)]
noncomputable def o119 (P : Params) : Obj := tu []
noncomputable def o121 (P : Params) : Obj := co [(s "significant" 319), (s "significant" 320), (s "/claim/cut.py" 321), (i 100), (i 2), (i 0), (i 0), (i 3), (r 116), (.bool true), (i 181), (r 117), o, (r 118), (r 119), (r 120), (i 326), (i 100), (s "/claim/cut.py" 327)]
noncomputable def o122 (P : Params) : Obj := fb (sn 20) o "vectorcove.numtext" 288 121
noncomputable def o123 (P : Params) : Obj := tu []
noncomputable def o125 (P : Params) : Obj := tu [(s "text" 332), (s "end" 333)]
noncomputable def o126 (P : Params) : Obj := tu []
noncomputable def o128 (P : Params) : Obj := co [(s "without_tail" 329), (s "without_tail" 330), (s "/claim/cut.py" 331), (i 109), (i 1), (i 0), (i 0), (i 3), (r 123), (.bool true), (i 181), (r 124), o, (r 125), (r 126), (r 127), (i 334), (i 109), (s "/claim/cut.py" 335)]
noncomputable def o129 (P : Params) : Obj := fb (sn 21) o "vectorcove.numtext" 288 128
noncomputable def o130 (P : Params) : Obj := tu []
noncomputable def o132 (P : Params) : Obj := tu [(s "x" 340), (s "digits" 341), (s "side" 342), (s "text" 343), (s "e" 344), (s "row" 345)]
noncomputable def o133 (P : Params) : Obj := tu []
noncomputable def o135 (P : Params) : Obj := co [(s "scientific_text" 337), (s "scientific_text" 338), (s "/claim/cut.py" 339), (i 114), (i 2), (i 0), (i 0), (i 3), (r 130), (.bool true), (i 181), (r 131), o, (r 132), (r 133), (r 134), (i 346), (i 114), (s "/claim/cut.py" 347)]
noncomputable def o136 (P : Params) : Obj := fb (sn 22) o "vectorcove.numtext" 288 135
noncomputable def o137 (P : Params) : Obj := tu []
noncomputable def o139 (P : Params) : Obj := tu [(s "x" 352), (s "places" 353), (s "n" 354), (s "text" 355)]
noncomputable def o140 (P : Params) : Obj := tu []
noncomputable def o142 (P : Params) : Obj := co [(s "fixed_text" 349), (s "fixed_text" 350), (s "/claim/cut.py" 351), (i 121), (i 2), (i 0), (i 0), (i 3), (r 137), (.bool true), (i 181), (r 138), o, (r 139), (r 140), (r 141), (i 356), (i 121), (s "/claim/cut.py" 357)]
noncomputable def o143 (P : Params) : Obj := fb (sn 23) o "vectorcove.numtext" 288 142
noncomputable def o144 (P : Params) : Obj := tu []
noncomputable def o146 (P : Params) : Obj := tu [(s "x" 362), (s "digits" 363), (s "side" 364), (s "text" 365), (s "e" 366), (s "count" 367), (s "left" 368)]
noncomputable def o147 (P : Params) : Obj := tu []
noncomputable def o149 (P : Params) : Obj := co [(s "measures" 359), (s "measures" 360), (s "/claim/cut.py" 361), (i 129), (i 2), (i 0), (i 0), (i 3), (r 144), (.bool true), (i 181), (r 145), o, (r 146), (r 147), (r 148), (i 369), (i 129), (s "/claim/cut.py" 370)]
noncomputable def o150 (P : Params) : Obj := fb (sn 24) o "vectorcove.numtext" 288 149
noncomputable def o151 (P : Params) : Obj := tu []
noncomputable def o153 (P : Params) : Obj := tu [(s "xs" 375), (s "digits" 376), (s "count" 377), (s "left" 378), (s "places" 379), (s "wide" 380), (s "minus" 381), (s "x" 382), (s "row" 383), (s "fixed_width" 384), (s "scientific_width" 385)]
noncomputable def o154 (P : Params) : Obj := tu []
noncomputable def o156 (P : Params) : Obj := co [(s "chosen_form" 372), (s "chosen_form" 373), (s "/claim/cut.py" 374), (i 136), (i 2), (i 0), (i 0), (i 3), (r 151), (.bool true), (i 181), (r 152), o, (r 153), (r 154), (r 155), (i 386), (i 136), (s "/claim/cut.py" 387)]
noncomputable def o157 (P : Params) : Obj := fb (sn 25) o "vectorcove.numtext" 288 156
noncomputable def o158 (P : Params) : Obj := tu []
noncomputable def o160 (P : Params) : Obj := tu [(s "x" 392), (s "form" 393), (s "text" 394)]
noncomputable def o161 (P : Params) : Obj := tu []
noncomputable def o163 (P : Params) : Obj := co [(s "formed" 389), (s "formed" 390), (s "/claim/cut.py" 391), (i 156), (i 2), (i 0), (i 0), (i 3), (r 158), (.bool true), (i 181), (r 159), o, (r 160), (r 161), (r 162), (i 395), (i 156), (s "/claim/cut.py" 396)]
noncomputable def o164 (P : Params) : Obj := fb (sn 26) o "vectorcove.numtext" 288 163
noncomputable def o165 (P : Params) : Obj := tu []
noncomputable def o168 (P : Params) : Obj := co [(s "common_texts" 398), (s "common_texts" 399), (s "/claim/cut.py" 400), (i 163), (i 2), (i 0), (i 0), (i 3), (r 165), (.bool true), (i 181), (r 166), o, o, o, (r 167), (i 401), (i 163), (s "/claim/cut.py" 402)]
noncomputable def o169 (P : Params) : Obj := fb (sn 27) o "vectorcove.numtext" 288 168
noncomputable def o170 (P : Params) : Obj := tu [(.int (7) 404)]
noncomputable def o171 (P : Params) : Obj := tu []
noncomputable def o173 (P : Params) : Obj := tu [(s "x" 408), (s "digits" 409)]
noncomputable def o174 (P : Params) : Obj := tu []
noncomputable def o176 (P : Params) : Obj := co [(s "number_text" 405), (s "number_text" 406), (s "/claim/cut.py" 407), (i 167), (i 2), (i 0), (i 0), (i 3), (r 171), (.bool true), (i 181), (r 172), o, (r 173), (r 174), (r 175), (i 410), (i 167), (s "/claim/cut.py" 411)]
noncomputable def o177 (P : Params) : Obj := fb (sn 28) (r 170) "vectorcove.numtext" 288 176
noncomputable def o178 (P : Params) : Obj := tu []
noncomputable def o180 (P : Params) : Obj := tu [(s "d" 416), (s "twos" 417), (s "fives" 418)]
noncomputable def o181 (P : Params) : Obj := tu []
noncomputable def o183 (P : Params) : Obj := co [(s "decimal_places" 413), (s "decimal_places" 414), (s "/claim/cut.py" 415), (i 169), (i 1), (i 0), (i 0), (i 3), (r 178), (.bool true), (i 181), (r 179), o, (r 180), (r 181), (r 182), (i 419), (i 169), (s "/claim/cut.py" 420)]
noncomputable def o184 (P : Params) : Obj := fb (sn 29) o "vectorcove.numtext" 288 183
noncomputable def o185 (P : Params) : Obj := tu []
noncomputable def o187 (P : Params) : Obj := tu [(s "x" 425), (s "text" 426), (s "places" 427), (s "n" 428)]
noncomputable def o188 (P : Params) : Obj := tu []
noncomputable def o190 (P : Params) : Obj := co [(s "exact_text" 422), (s "exact_text" 423), (s "/claim/cut.py" 424), (i 181), (i 1), (i 0), (i 0), (i 3), (r 185), (.bool true), (i 181), (r 186), o, (r 187), (r 188), (r 189), (i 429), (i 181), (s "/claim/cut.py" 430)]
noncomputable def o191 (P : Params) : Obj := fb (sn 30) o "vectorcove.numtext" 288 190
noncomputable def o192 (P : Params) : Obj := tu []
noncomputable def o194 (P : Params) : Obj := tu [(s "text" 435), (s "base" 436), (s "value" 437), (s "char" 438)]
noncomputable def o195 (P : Params) : Obj := tu []
noncomputable def o197 (P : Params) : Obj := co [(s "digits_value" 432), (s "digits_value" 433), (s "/claim/cut.py" 434), (i 193), (i 2), (i 0), (i 0), (i 3), (r 192), (.bool true), (i 181), (r 193), o, (r 194), (r 195), (r 196), (i 439), (i 193), (s "/claim/cut.py" 440)]
noncomputable def o198 (P : Params) : Obj := fb (sn 31) o "vectorcove.numtext" 288 197
noncomputable def o199 (P : Params) : Obj := tu []
noncomputable def o201 (P : Params) : Obj := tu [(s "text" 445), (s "at" 446), (s "digits" 447)]
noncomputable def o202 (P : Params) : Obj := tu []
noncomputable def o204 (P : Params) : Obj := co [(s "digit_run" 442), (s "digit_run" 443), (s "/claim/cut.py" 444), (i 198), (i 3), (i 0), (i 0), (i 3), (r 199), (.bool true), (i 181), (r 200), o, (r 201), (r 202), (r 203), (i 448), (i 198), (s "/claim/cut.py" 449)]
noncomputable def o205 (P : Params) : Obj := fb (sn 32) o "vectorcove.numtext" 288 204
noncomputable def o206 (P : Params) : Obj := tu []
noncomputable def o208 (P : Params) : Obj := tu [(s "text" 454), (s "start" 455), (s "value" 456)]
noncomputable def o209 (P : Params) : Obj := tu []
noncomputable def o211 (P : Params) : Obj := co [(s "exponent_value" 451), (s "exponent_value" 452), (s "/claim/cut.py" 453), (i 202), (i 1), (i 0), (i 0), (i 3), (r 206), (.bool true), (i 181), (r 207), o, (r 208), (r 209), (r 210), (i 457), (i 202), (s "/claim/cut.py" 458)]
noncomputable def o212 (P : Params) : Obj := fb (sn 33) o "vectorcove.numtext" 288 211
noncomputable def o213 (P : Params) : Obj := tu []
noncomputable def o215 (P : Params) : Obj := tu [(s "n" 463), (s "base" 464), (s "e" 465)]
noncomputable def o216 (P : Params) : Obj := tu []
noncomputable def o218 (P : Params) : Obj := co [(s "powered" 460), (s "powered" 461), (s "/claim/cut.py" 462), (i 212), (i 3), (i 0), (i 0), (i 3), (r 213), (.bool true), (i 181), (r 214), o, (r 215), (r 216), (r 217), (i 466), (i 212), (s "/claim/cut.py" 467)]
noncomputable def o219 (P : Params) : Obj := fb (sn 34) o "vectorcove.numtext" 288 218
noncomputable def o220 (P : Params) : Obj := tu []
noncomputable def o222 (P : Params) : Obj := tu [(s "text" 472), (s "base" 473), (s "digits" 474), (s "mark" 475), (s "scale" 476), (s "end" 477), (s "before" 478), (s "behind" 479), (s "start" 480), (s "e" 481), (s "ok" 482), (s "n" 483), (s "found" 484)]
noncomputable def o223 (P : Params) : Obj := tu []
noncomputable def o225 (P : Params) : Obj := co [(s "unsigned_number" 469), (s "unsigned_number" 470), (s "/claim/cut.py" 471), (i 222), (i 1), (i 0), (i 0), (i 3), (r 220), (.bool true), (i 181), (r 221), o, (r 222), (r 223), (r 224), (i 485), (i 222), (s "/claim/cut.py" 486)]
noncomputable def o226 (P : Params) : Obj := fb (sn 35) o "vectorcove.numtext" 288 225
noncomputable def o227 (P : Params) : Obj := tu []
noncomputable def o229 (P : Params) : Obj := tu [(s "text" 491), (s "body" 492), (s "negative" 493), (s "small" 494), (s "found" 495), (s "ok" 496)]
noncomputable def o230 (P : Params) : Obj := tu []
noncomputable def o232 (P : Params) : Obj := co [(s "parse_number" 488), (s "parse_number" 489), (s "/claim/cut.py" 490), (i 254), (i 1), (i 0), (i 0), (i 3), (r 227), (.bool true), (i 181), (r 228), o, (r 229), (r 230), (r 231), (i 497), (i 254), (s "/claim/cut.py" 498)]
noncomputable def o233 (P : Params) : Obj := fb (sn 36) o "vectorcove.numtext" 288 232
noncomputable def o234 (P : Params) : Obj := tu [(y "Exception")]
noncomputable def o241 (P : Params) : Obj := tu []
noncomputable def o242 (P : Params) : Obj := di P [e "__module__" 509 (s "vectorcove.errors" 500), e "__firstlineno__" 513 (.int (272) 512), e "__static_attributes__" 514 (r 241), e "__weakref__" 516 (r 244), e "__doc__" 517 o] 3
noncomputable def o243 (P : Params) : Obj := ty "CoveError" [(y "Exception")] [(r 243), (y "Exception"), (y "BaseException"), (y "object")] 242 "CoveError" [(r 263)] [(some (r 234)), none, (some (s "CoveError" 502)), (some (s "CoveError" 510)), (some (u "Exception.__new__")), (some (.bool true))]
noncomputable def o244 (P : Params) : Obj := fo "getset_descriptor" [(s "__weakref__" 515), (r 243), (u "ExceptionGroup.__weakref__"), o]
noncomputable def o247 (P : Params) : Obj := tu [(r 243)]
noncomputable def o254 (P : Params) : Obj := tu []
noncomputable def o256 (P : Params) : Obj := tu [(s "self" 537), (s "message" 538)]
noncomputable def o257 (P : Params) : Obj := tu []
noncomputable def o259 (P : Params) : Obj := co [(s "__init__" 534), (s "Refusal.__init__" 535), (s "/claim/cut.py" 536), (i 276), (i 2), (i 0), (i 0), (i 3), (r 254), (.bool true), (i 181), (r 255), o, (r 256), (r 257), (r 258), (i 539), (i 276), (s "/claim/cut.py" 540)]
noncomputable def o260 (P : Params) : Obj := fr (mt 39 0) "Refusal.__init__" o "vectorcove.errors" 500 259
noncomputable def o261 (P : Params) : Obj := tu [(s "message" 542)]
noncomputable def o262 (P : Params) : Obj := di P [e "__module__" 529 (s "vectorcove.errors" 500), e "__firstlineno__" 533 (.int (274) 532), e "__init__" 541 (r 260), e "__static_attributes__" 543 (r 261), e "__doc__" 544 o] 2
noncomputable def o263 (P : Params) : Obj := ty "Refusal" [(r 243)] [(r 263), (r 243), (y "Exception"), (y "BaseException"), (y "object")] 262 "Refusal" [] [(some (r 247)), none, (some (s "Refusal" 522)), (some (s "Refusal" 530)), (some (u "Exception.__new__")), (some (.bool true))]
noncomputable def o273 (P : Params) : Obj := tu []
noncomputable def o275 (P : Params) : Obj := tu [(s "self" 566)]
noncomputable def o276 (P : Params) : Obj := tu []
noncomputable def o278 (P : Params) : Obj := co [(s "__init__" 563), (s "Null.__init__" 564), (s "/claim/cut.py" 565), (i 282), (i 1), (i 0), (i 0), (i 3), (r 273), (.bool true), (i 181), (r 274), o, (r 275), (r 276), (r 277), (i 567), (i 282), (s "/claim/cut.py" 568)]
noncomputable def o279 (P : Params) : Obj := fr (mt 42 0) "Null.__init__" o "vectorcove.values" 547 278
noncomputable def o280 (P : Params) : Obj := tu [(s "attrs" 570), (s "kind" 571)]
noncomputable def o281 (P : Params) : Obj := di P [e "__module__" 558 (s "vectorcove.values" 547), e "__firstlineno__" 562 (.int (280) 561), e "__init__" 569 (r 279), e "__static_attributes__" 572 (r 280), e "__dict__" 574 (r 283), e "__weakref__" 576 (r 284), e "__doc__" 577 o] 4
noncomputable def o282 (P : Params) : Obj := ty "Null" [(y "object")] [(r 282), (y "object")] 281 "Null" [] [none, none, (some (s "Null" 551)), (some (s "Null" 559)), (some (u "object.__new__")), (some (.bool true))]
noncomputable def o283 (P : Params) : Obj := fo "getset_descriptor" [(s "__dict__" 573), (r 282), (u "function.__dict__"), (u "function.__dict__#set")]
noncomputable def o284 (P : Params) : Obj := fo "getset_descriptor" [(s "__weakref__" 575), (r 282), (u "ExceptionGroup.__weakref__"), o]
noncomputable def o294 (P : Params) : Obj := tu [o]
noncomputable def o295 (P : Params) : Obj := tu []
noncomputable def o297 (P : Params) : Obj := tu [(s "self" 595), (s "kind" 596), (s "items" 597), (s "attrs" 598)]
noncomputable def o298 (P : Params) : Obj := tu []
noncomputable def o300 (P : Params) : Obj := co [(s "__init__" 592), (s "Vector.__init__" 593), (s "/claim/cut.py" 594), (i 287), (i 4), (i 0), (i 0), (i 3), (r 295), (.bool true), (i 181), (r 296), o, (r 297), (r 298), (r 299), (i 599), (i 287), (s "/claim/cut.py" 600)]
noncomputable def o301 (P : Params) : Obj := fr (mt 43 0) "Vector.__init__" (r 294) "vectorcove.values" 547 300
noncomputable def o302 (P : Params) : Obj := tu []
noncomputable def o304 (P : Params) : Obj := tu [(s "self" 605)]
noncomputable def o305 (P : Params) : Obj := tu []
noncomputable def o307 (P : Params) : Obj := co [(s "copy" 602), (s "Vector.copy" 603), (s "/claim/cut.py" 604), (i 294), (i 1), (i 0), (i 0), (i 3), (r 302), (.bool true), (i 181), (r 303), o, (r 304), (r 305), (r 306), (i 606), (i 294), (s "/claim/cut.py" 607)]
noncomputable def o308 (P : Params) : Obj := fr (mt 43 1) "Vector.copy" o "vectorcove.values" 547 307
noncomputable def o309 (P : Params) : Obj := tu [(s "attrs" 609), (s "items" 610), (s "kind" 611), (s "loose" 612), (s "shared" 613)]
noncomputable def o310 (P : Params) : Obj := di P [e "__module__" 587 (s "vectorcove.values" 547), e "__firstlineno__" 591 (.int (285) 590), e "__init__" 601 (r 301), e "copy" 608 (r 308), e "__static_attributes__" 614 (r 309), e "__dict__" 616 (r 312), e "__weakref__" 618 (r 313), e "__doc__" 619 o] 4
noncomputable def o311 (P : Params) : Obj := ty "Vector" [(y "object")] [(r 311), (y "object")] 310 "Vector" [] [none, none, (some (s "Vector" 580)), (some (s "Vector" 588)), (some (u "object.__new__")), (some (.bool true))]
noncomputable def o312 (P : Params) : Obj := fo "getset_descriptor" [(s "__dict__" 615), (r 311), (u "function.__dict__"), (u "function.__dict__#set")]
noncomputable def o313 (P : Params) : Obj := fo "getset_descriptor" [(s "__weakref__" 617), (r 311), (u "ExceptionGroup.__weakref__"), o]
noncomputable def o316 (P : Params) : Obj := tu []
noncomputable def o318 (P : Params) : Obj := tu [(s "n" 625)]
noncomputable def o319 (P : Params) : Obj := tu []
noncomputable def o321 (P : Params) : Obj := co [(s "room" 622), (s "room" 623), (s "/claim/cut.py" 624), (i 296), (i 1), (i 0), (i 0), (i 3), (r 316), (.bool true), (i 181), (r 317), o, (r 318), (r 319), (r 320), (i 626), (i 296), (s "/claim/cut.py" 627)]
noncomputable def o322 (P : Params) : Obj := fb (sn 44) o "vectorcove.values" 547 321
noncomputable def o323 (P : Params) : Obj := tu []
noncomputable def o325 (P : Params) : Obj := tu [(s "items" 632)]
noncomputable def o326 (P : Params) : Obj := tu []
noncomputable def o328 (P : Params) : Obj := co [(s "integer" 629), (s "integer" 630), (s "/claim/cut.py" 631), (i 300), (i 1), (i 0), (i 0), (i 3), (r 323), (.bool true), (i 181), (r 324), o, (r 325), (r 326), (r 327), (i 633), (i 300), (s "/claim/cut.py" 634)]
noncomputable def o329 (P : Params) : Obj := fb (sn 45) o "vectorcove.values" 547 328
noncomputable def o330 (P : Params) : Obj := tu []
noncomputable def o332 (P : Params) : Obj := tu [(s "items" 639)]
noncomputable def o333 (P : Params) : Obj := tu []
noncomputable def o335 (P : Params) : Obj := co [(s "character" 636), (s "character" 637), (s "/claim/cut.py" 638), (i 302), (i 1), (i 0), (i 0), (i 3), (r 330), (.bool true), (i 181), (r 331), o, (r 332), (r 333), (r 334), (i 640), (i 302), (s "/claim/cut.py" 641)]
noncomputable def o336 (P : Params) : Obj := fb (sn 46) o "vectorcove.values" 547 335
noncomputable def o337 (P : Params) : Obj := tu []
noncomputable def o339 (P : Params) : Obj := tu [(s "v" 646), (s "kind" 647)]
noncomputable def o340 (P : Params) : Obj := tu []
noncomputable def o342 (P : Params) : Obj := co [(s "length" 643), (s "length" 644), (s "/claim/cut.py" 645), (i 304), (i 1), (i 0), (i 0), (i 3), (r 337), (.bool true), (i 181), (r 338), o, (r 339), (r 340), (r 341), (i 648), (i 304), (s "/claim/cut.py" 649)]
noncomputable def o343 (P : Params) : Obj := fb (sn 47) o "vectorcove.values" 547 342
noncomputable def o344 (P : Params) : Obj := tu []
noncomputable def o346 (P : Params) : Obj := tu [(s "v" 654)]
noncomputable def o347 (P : Params) : Obj := tu []
noncomputable def o349 (P : Params) : Obj := co [(s "is_atomic" 651), (s "is_atomic" 652), (s "/claim/cut.py" 653), (i 315), (i 1), (i 0), (i 0), (i 3), (r 344), (.bool true), (i 181), (r 345), o, (r 346), (r 347), (r 348), (i 655), (i 315), (s "/claim/cut.py" 656)]
noncomputable def o350 (P : Params) : Obj := fb (sn 48) o "vectorcove.values" 547 349
noncomputable def o351 (P : Params) : Obj := tu []
noncomputable def o353 (P : Params) : Obj := tu [(s "v" 661)]
noncomputable def o354 (P : Params) : Obj := tu []
noncomputable def o356 (P : Params) : Obj := co [(s "share" 658), (s "share" 659), (s "/claim/cut.py" 660), (i 317), (i 1), (i 0), (i 0), (i 3), (r 351), (.bool true), (i 181), (r 352), o, (r 353), (r 354), (r 355), (i 662), (i 317), (s "/claim/cut.py" 663)]
noncomputable def o357 (P : Params) : Obj := fb (sn 49) o "vectorcove.values" 547 356
noncomputable def o358 (P : Params) : Obj := tu []
noncomputable def o360 (P : Params) : Obj := tu [(s "v" 670), (s "name" 671)]
noncomputable def o361 (P : Params) : Obj := tu []
noncomputable def o363 (P : Params) : Obj := co [(s "get_attr" 667), (s "get_attr" 668), (s "/claim/cut.py" 669), (i 322), (i 2), (i 0), (i 0), (i 3), (r 358), (.bool true), (i 181), (r 359), o, (r 360), (r 361), (r 362), (i 672), (i 322), (s "/claim/cut.py" 673)]
noncomputable def o364 (P : Params) : Obj := fb (sn 51) o "vectorcove.attrs" 665 363
noncomputable def o365 (P : Params) : Obj := tu []
noncomputable def o367 (P : Params) : Obj := tu [(s "kind" 678), (s "item" 679)]
noncomputable def o368 (P : Params) : Obj := tu []
noncomputable def o370 (P : Params) : Obj := co [(s "label_text" 675), (s "label_text" 676), (s "/claim/cut.py" 677), (i 326), (i 2), (i 0), (i 0), (i 3), (r 365), (.bool true), (i 181), (r 366), o, (r 367), (r 368), (r 369), (i 680), (i 326), (s "/claim/cut.py" 681)]
noncomputable def o371 (P : Params) : Obj := fb (sn 52) o "vectorcove.attrs" 665 370
noncomputable def o372 (P : Params) : Obj := tu []
noncomputable def o374 (P : Params) : Obj := tu [(s "texts" 686), (s "code" 687)]
noncomputable def o375 (P : Params) : Obj := tu []
noncomputable def o377 (P : Params) : Obj := co [(s "level_at" 683), (s "level_at" 684), (s "/claim/cut.py" 685), (i 334), (i 2), (i 0), (i 0), (i 3), (r 372), (.bool true), (i 181), (r 373), o, (r 374), (r 375), (r 376), (i 688), (i 334), (s "/claim/cut.py" 689)]
noncomputable def o378 (P : Params) : Obj := fb (sn 53) o "vectorcove.attrs" 665 377
noncomputable def o379 (P : Params) : Obj := tu []
noncomputable def o382 (P : Params) : Obj := co [(s "label_texts" 691), (s "label_texts" 692), (s "/claim/cut.py" 693), (i 338), (i 1), (i 0), (i 0), (i 3), (r 379), (.bool true), (i 181), (r 380), o, o, o, (r 381), (i 694), (i 338), (s "/claim/cut.py" 695)]
noncomputable def o383 (P : Params) : Obj := fb (sn 54) o "vectorcove.attrs" 665 382
noncomputable def o384 (P : Params) : Obj := tu []
noncomputable def o387 (P : Params) : Obj := co [(s "names_of" 697), (s "names_of" 698), (s "/claim/cut.py" 699), (i 344), (i 1), (i 0), (i 0), (i 3), (r 384), (.bool true), (i 181), (r 385), o, o, o, (r 386), (i 700), (i 344), (s "/claim/cut.py" 701)]
noncomputable def o388 (P : Params) : Obj := fb (sn 55) o "vectorcove.attrs" 665 387
noncomputable def o389 (P : Params) : Obj := tu []
noncomputable def o391 (P : Params) : Obj := tu [(s "v" 706), (s "dims" 707)]
noncomputable def o392 (P : Params) : Obj := tu []
noncomputable def o394 (P : Params) : Obj := co [(s "dim_of" 703), (s "dim_of" 704), (s "/claim/cut.py" 705), (i 360), (i 1), (i 0), (i 0), (i 3), (r 389), (.bool true), (i 181), (r 390), o, (r 391), (r 392), (r 393), (i 708), (i 360), (s "/claim/cut.py" 709)]
noncomputable def o395 (P : Params) : Obj := fb (sn 56) o "vectorcove.attrs" 665 394
noncomputable def o396 (P : Params) : Obj := tu []
noncomputable def o399 (P : Params) : Obj := co [(s "dimnames_of" 711), (s "dimnames_of" 712), (s "/claim/cut.py" 713), (i 365), (i 1), (i 0), (i 0), (i 3), (r 396), (.bool true), (i 181), (r 397), o, o, o, (r 398), (i 714), (i 365), (s "/claim/cut.py" 715)]
noncomputable def o400 (P : Params) : Obj := fb (sn 57) o "vectorcove.attrs" 665 399
noncomputable def o401 (P : Params) : Obj := tu []
noncomputable def o403 (P : Params) : Obj := tu [(s "v" 720), (s "found" 721)]
noncomputable def o404 (P : Params) : Obj := tu []
noncomputable def o406 (P : Params) : Obj := co [(s "class_attr" 717), (s "class_attr" 718), (s "/claim/cut.py" 719), (i 370), (i 1), (i 0), (i 0), (i 3), (r 401), (.bool true), (i 181), (r 402), o, (r 403), (r 404), (r 405), (i 722), (i 370), (s "/claim/cut.py" 723)]
noncomputable def o407 (P : Params) : Obj := fb (sn 58) o "vectorcove.attrs" 665 406
noncomputable def o408 (P : Params) : Obj := tu []
noncomputable def o410 (P : Params) : Obj := tu [(s "kind" 732), (s "kinds" 733)]
noncomputable def o411 (P : Params) : Obj := tu []
noncomputable def o413 (P : Params) : Obj := co [(s "kind_order" 729), (s "kind_order" 730), (s "/claim/cut.py" 731), (i 377), (i 1), (i 0), (i 0), (i 3), (r 408), (.bool true), (i 181), (r 409), o, (r 410), (r 411), (r 412), (i 734), (i 377), (s "/claim/cut.py" 735)]
noncomputable def o414 (P : Params) : Obj := fb (sn 61) o "vectorcove.coerce" 725 413
noncomputable def o415 (P : Params) : Obj := tu []
noncomputable def o417 (P : Params) : Obj := tu [(s "kinds" 740), (s "names" 741), (s "most" 742), (s "kind" 743)]
noncomputable def o418 (P : Params) : Obj := tu []
noncomputable def o420 (P : Params) : Obj := co [(s "common_kind" 737), (s "common_kind" 738), (s "/claim/cut.py" 739), (i 382), (i 1), (i 0), (i 0), (i 3), (r 415), (.bool true), (i 181), (r 416), o, (r 417), (r 418), (r 419), (i 744), (i 382), (s "/claim/cut.py" 745)]
noncomputable def o421 (P : Params) : Obj := fb (sn 62) o "vectorcove.coerce" 725 420
noncomputable def o422 (P : Params) : Obj := tu []
noncomputable def o424 (P : Params) : Obj := tu [(s "notes" 750), (s "message" 751)]
noncomputable def o425 (P : Params) : Obj := tu []
noncomputable def o427 (P : Params) : Obj := co [(s "note" 747), (s "note" 748), (s "/claim/cut.py" 749), (i 388), (i 2), (i 0), (i 0), (i 3), (r 422), (.bool true), (i 181), (r 423), o, (r 424), (r 425), (r 426), (i 752), (i 388), (s "/claim/cut.py" 753)]
noncomputable def o428 (P : Params) : Obj := fb (sn 63) o "vectorcove.coerce" 725 427
noncomputable def o429 (P : Params) : Obj := tu []
noncomputable def o431 (P : Params) : Obj := tu [(s "s" 758)]
noncomputable def o432 (P : Params) : Obj := tu []
noncomputable def o434 (P : Params) : Obj := co [(s "as_logical_text" 755), (s "as_logical_text" 756), (s "/claim/cut.py" 757), (i 391), (i 1), (i 0), (i 0), (i 3), (r 429), (.bool true), (i 181), (r 430), o, (r 431), (r 432), (r 433), (i 759), (i 391), (s "/claim/cut.py" 760)]
noncomputable def o435 (P : Params) : Obj := fb (sn 64) o "vectorcove.coerce" 725 434
noncomputable def o436 (P : Params) : Obj := tu []
noncomputable def o438 (P : Params) : Obj := tu [(s "x" 765), (s "notes" 766), (s "found" 767)]
noncomputable def o439 (P : Params) : Obj := tu []
noncomputable def o441 (P : Params) : Obj := co [(s "double_to_integer" 762), (s "double_to_integer" 763), (s "/claim/cut.py" 764), (i 397), (i 2), (i 0), (i 0), (i 3), (r 436), (.bool true), (i 181), (r 437), o, (r 438), (r 439), (r 440), (i 768), (i 397), (s "/claim/cut.py" 769)]
noncomputable def o442 (P : Params) : Obj := fb (sn 65) o "vectorcove.coerce" 725 441
noncomputable def o443 (P : Params) : Obj := tu []
noncomputable def o445 (P : Params) : Obj := tu [(s "s" 774), (s "notes" 775), (s "ok" 776), (s "found" 777)]
noncomputable def o446 (P : Params) : Obj := tu []
noncomputable def o448 (P : Params) : Obj := co [(s "text_to_double" 771), (s "text_to_double" 772), (s "/claim/cut.py" 773), (i 405), (i 2), (i 0), (i 0), (i 3), (r 443), (.bool true), (i 181), (r 444), o, (r 445), (r 446), (r 447), (i 778), (i 405), (s "/claim/cut.py" 779)]
noncomputable def o449 (P : Params) : Obj := fb (sn 66) o "vectorcove.coerce" 725 448
noncomputable def o450 (P : Params) : Obj := tu []
noncomputable def o452 (P : Params) : Obj := tu [(s "kind" 784), (s "item" 785)]
noncomputable def o453 (P : Params) : Obj := tu []
noncomputable def o455 (P : Params) : Obj := co [(s "to_logical" 781), (s "to_logical" 782), (s "/claim/cut.py" 783), (i 411), (i 2), (i 0), (i 0), (i 3), (r 450), (.bool true), (i 181), (r 451), o, (r 452), (r 453), (r 454), (i 786), (i 411), (s "/claim/cut.py" 787)]
noncomputable def o456 (P : Params) : Obj := fb (sn 67) o "vectorcove.coerce" 725 455
noncomputable def o457 (P : Params) : Obj := tu []
noncomputable def o459 (P : Params) : Obj := tu [(s "kind" 792), (s "item" 793), (s "notes" 794)]
noncomputable def o460 (P : Params) : Obj := tu []
noncomputable def o462 (P : Params) : Obj := co [(s "to_integer" 789), (s "to_integer" 790), (s "/claim/cut.py" 791), (i 421), (i 3), (i 0), (i 0), (i 3), (r 457), (.bool true), (i 181), (r 458), o, (r 459), (r 460), (r 461), (i 795), (i 421), (s "/claim/cut.py" 796)]
noncomputable def o463 (P : Params) : Obj := fb (sn 68) o "vectorcove.coerce" 725 462
noncomputable def o464 (P : Params) : Obj := tu []
noncomputable def o466 (P : Params) : Obj := tu [(s "kind" 801), (s "item" 802), (s "notes" 803)]
noncomputable def o467 (P : Params) : Obj := tu []
noncomputable def o469 (P : Params) : Obj := co [(s "to_double" 798), (s "to_double" 799), (s "/claim/cut.py" 800), (i 429), (i 3), (i 0), (i 0), (i 3), (r 464), (.bool true), (i 181), (r 465), o, (r 466), (r 467), (r 468), (i 804), (i 429), (s "/claim/cut.py" 805)]
noncomputable def o470 (P : Params) : Obj := fb (sn 69) o "vectorcove.coerce" 725 469
noncomputable def o471 (P : Params) : Obj := tu []
noncomputable def o473 (P : Params) : Obj := tu [(s "kind" 810), (s "item" 811)]
noncomputable def o474 (P : Params) : Obj := tu []
noncomputable def o476 (P : Params) : Obj := co [(s "to_text" 807), (s "to_text" 808), (s "/claim/cut.py" 809), (i 435), (i 2), (i 0), (i 0), (i 3), (r 471), (.bool true), (i 181), (r 472), o, (r 473), (r 474), (r 475), (i 812), (i 435), (s "/claim/cut.py" 813)]
noncomputable def o477 (P : Params) : Obj := fb (sn 70) o "vectorcove.coerce" 725 476
noncomputable def o478 (P : Params) : Obj := tu []
noncomputable def o480 (P : Params) : Obj := tu [(s "kind" 818), (s "item" 819), (s "to" 820), (s "notes" 821)]
noncomputable def o481 (P : Params) : Obj := tu []
noncomputable def o483 (P : Params) : Obj := co [(s "item_as" 815), (s "item_as" 816), (s "/claim/cut.py" 817), (i 443), (i 4), (i 0), (i 0), (i 3), (r 478), (.bool true), (i 181), (r 479), o, (r 480), (r 481), (r 482), (i 822), (i 443), (s "/claim/cut.py" 823)]
noncomputable def o484 (P : Params) : Obj := fb (sn 71) o "vectorcove.coerce" 725 483
noncomputable def o485 (P : Params) : Obj := tu []
noncomputable def o487 (P : Params) : Obj := tu [(s "kind" 828)]
noncomputable def o488 (P : Params) : Obj := tu []
noncomputable def o490 (P : Params) : Obj := co [(s "is_atomic_kind" 825), (s "is_atomic_kind" 826), (s "/claim/cut.py" 827), (i 457), (i 1), (i 0), (i 0), (i 3), (r 485), (.bool true), (i 181), (r 486), o, (r 487), (r 488), (r 489), (i 829), (i 457), (s "/claim/cut.py" 830)]
noncomputable def o491 (P : Params) : Obj := fb (sn 72) o "vectorcove.coerce" 725 490
noncomputable def o492 (P : Params) : Obj := tu []
noncomputable def o494 (P : Params) : Obj := tu [(s "kind" 835), (s "item" 836), (s "to" 837), (s "notes" 838)]
noncomputable def o495 (P : Params) : Obj := tu []
noncomputable def o497 (P : Params) : Obj := co [(s "list_item_as" 832), (s "list_item_as" 833), (s "/claim/cut.py" 834), (i 459), (i 4), (i 0), (i 0), (i 3), (r 492), (.bool true), (i 181), (r 493), o, (r 494), (r 495), (r 496), (i 839), (i 459), (s "/claim/cut.py" 840)]
noncomputable def o498 (P : Params) : Obj := fb (sn 73) o "vectorcove.coerce" 725 497
noncomputable def o499 (P : Params) : Obj := tu []
noncomputable def o501 (P : Params) : Obj := tu [(s "v" 845), (s "kind" 846)]
noncomputable def o502 (P : Params) : Obj := tu []
noncomputable def o504 (P : Params) : Obj := co [(s "refuse_type" 842), (s "refuse_type" 843), (s "/claim/cut.py" 844), (i 465), (i 2), (i 0), (i 0), (i 3), (r 499), (.bool true), (i 181), (r 500), o, (r 501), (r 502), (r 503), (i 847), (i 465), (s "/claim/cut.py" 848)]
noncomputable def o505 (P : Params) : Obj := fb (sn 74) o "vectorcove.coerce" 725 504
noncomputable def o506 (P : Params) : Obj := tu []
noncomputable def o509 (P : Params) : Obj := co [(s "as_vector_kind" 850), (s "as_vector_kind" 851), (s "/claim/cut.py" 852), (i 467), (i 2), (i 0), (i 0), (i 3), (r 506), (.bool true), (i 181), (r 507), o, o, o, (r 508), (i 853), (i 467), (s "/claim/cut.py" 854)]
noncomputable def o510 (P : Params) : Obj := fb (sn 75) o "vectorcove.coerce" 725 509
noncomputable def o511 (P : Params) : Obj := tu []
noncomputable def o513 (P : Params) : Obj := tu [(s "v" 859), (s "names" 860)]
noncomputable def o514 (P : Params) : Obj := tu []
noncomputable def o516 (P : Params) : Obj := co [(s "with_names" 856), (s "with_names" 857), (s "/claim/cut.py" 858), (i 481), (i 2), (i 0), (i 0), (i 3), (r 511), (.bool true), (i 181), (r 512), o, (r 513), (r 514), (r 515), (i 861), (i 481), (s "/claim/cut.py" 862)]
noncomputable def o517 (P : Params) : Obj := fb (sn 76) o "vectorcove.coerce" 725 516
noncomputable def o518 (P : Params) : Obj := tu []
noncomputable def o521 (P : Params) : Obj := co [(s "as_kind" 864), (s "as_kind" 865), (s "/claim/cut.py" 866), (i 485), (i 3), (i 0), (i 0), (i 3), (r 518), (.bool true), (i 181), (r 519), o, o, o, (r 520), (i 867), (i 485), (s "/claim/cut.py" 868)]
noncomputable def o522 (P : Params) : Obj := fb (sn 77) o "vectorcove.coerce" 725 521
noncomputable def o523 (P : Params) : Obj := tu []
noncomputable def o525 (P : Params) : Obj := tu [(s "v" 873)]
noncomputable def o526 (P : Params) : Obj := tu []
noncomputable def o528 (P : Params) : Obj := co [(s "as_list" 870), (s "as_list" 871), (s "/claim/cut.py" 872), (i 492), (i 1), (i 0), (i 0), (i 3), (r 523), (.bool true), (i 181), (r 524), o, (r 525), (r 526), (r 527), (i 874), (i 492), (s "/claim/cut.py" 875)]
noncomputable def o529 (P : Params) : Obj := fb (sn 78) o "vectorcove.coerce" 725 528
noncomputable def o530 (P : Params) : Obj := tu []
noncomputable def o532 (P : Params) : Obj := tu [(s "kind" 882), (s "item" 883)]
noncomputable def o533 (P : Params) : Obj := tu []
noncomputable def o535 (P : Params) : Obj := co [(s "is_lacking" 879), (s "is_lacking" 880), (s "/claim/cut.py" 881), (i 495), (i 2), (i 0), (i 0), (i 3), (r 530), (.bool true), (i 181), (r 531), o, (r 532), (r 533), (r 534), (i 884), (i 495), (s "/claim/cut.py" 885)]
noncomputable def o536 (P : Params) : Obj := fb (sn 80) o "vectorcove.sorting" 877 535
noncomputable def o537 (P : Params) : Obj := tu []
noncomputable def o539 (P : Params) : Obj := tu [(s "kind" 890), (s "a" 891), (s "b" 892)]
noncomputable def o540 (P : Params) : Obj := tu []
noncomputable def o542 (P : Params) : Obj := co [(s "compare_items" 887), (s "compare_items" 888), (s "/claim/cut.py" 889), (i 497), (i 3), (i 0), (i 0), (i 3), (r 537), (.bool true), (i 181), (r 538), o, (r 539), (r 540), (r 541), (i 893), (i 497), (s "/claim/cut.py" 894)]
noncomputable def o543 (P : Params) : Obj := fb (sn 81) o "vectorcove.sorting" 877 542
noncomputable def o544 (P : Params) : Obj := tu []
noncomputable def o546 (P : Params) : Obj := tu [(s "v" 899)]
noncomputable def o547 (P : Params) : Obj := tu []
noncomputable def o549 (P : Params) : Obj := co [(s "check_sortable" 896), (s "check_sortable" 897), (s "/claim/cut.py" 898), (i 505), (i 1), (i 0), (i 0), (i 3), (r 544), (.bool true), (i 181), (r 545), o, (r 546), (r 547), (r 548), (i 900), (i 505), (s "/claim/cut.py" 901)]
noncomputable def o550 (P : Params) : Obj := fb (sn 82) o "vectorcove.sorting" 877 549
noncomputable def o551 (P : Params) : Obj := tu []
noncomputable def o553 (P : Params) : Obj := tu [(s "v" 906), (s "i" 907), (s "j" 908), (s "decreasing" 909), (s "na_last" 910), (s "left" 911), (s "right" 912), (s "left_lacking" 913), (s "right_lacking" 914), (s "result" 915)]
noncomputable def o554 (P : Params) : Obj := tu []
noncomputable def o556 (P : Params) : Obj := co [(s "compare_places" 903), (s "compare_places" 904), (s "/claim/cut.py" 905), (i 508), (i 5), (i 0), (i 0), (i 3), (r 551), (.bool true), (i 181), (r 552), o, (r 553), (r 554), (r 555), (i 916), (i 508), (s "/claim/cut.py" 917)]
noncomputable def o557 (P : Params) : Obj := fb (sn 83) o "vectorcove.sorting" 877 556
noncomputable def o558 (P : Params) : Obj := tu []
noncomputable def o560 (P : Params) : Obj := tu [(s "vs" 922), (s "i" 923), (s "j" 924), (s "decreasing" 925), (s "na_last" 926), (s "number" 927), (s "result" 928)]
noncomputable def o561 (P : Params) : Obj := tu []
noncomputable def o563 (P : Params) : Obj := co [(s "compare_keys" 919), (s "compare_keys" 920), (s "/claim/cut.py" 921), (i 521), (i 5), (i 0), (i 0), (i 3), (r 558), (.bool true), (i 181), (r 559), o, (r 560), (r 561), (r 562), (i 929), (i 521), (s "/claim/cut.py" 930)]
noncomputable def o564 (P : Params) : Obj := fb (sn 84) o "vectorcove.sorting" 877 563
noncomputable def o565 (P : Params) : Obj := tu []
noncomputable def o567 (P : Params) : Obj := tu [(s "left" 935), (s "right" 936), (s "vs" 937), (s "decreasing" 938), (s "na_last" 939), (s "merged" 940), (s "i" 941), (s "j" 942)]
noncomputable def o568 (P : Params) : Obj := tu []
noncomputable def o570 (P : Params) : Obj := co [(s "merge_runs" 932), (s "merge_runs" 933), (s "/claim/cut.py" 934), (i 527), (i 5), (i 0), (i 0), (i 3), (r 565), (.bool true), (i 181), (r 566), o, (r 567), (r 568), (r 569), (i 943), (i 527), (s "/claim/cut.py" 944)]
noncomputable def o571 (P : Params) : Obj := fb (sn 85) o "vectorcove.sorting" 877 570
noncomputable def o572 (P : Params) : Obj := tu []
noncomputable def o575 (P : Params) : Obj := co [(s "merge_sort" 946), (s "merge_sort" 947), (s "/claim/cut.py" 948), (i 539), (i 4), (i 0), (i 0), (i 3), (r 572), (.bool true), (i 181), (r 573), o, o, o, (r 574), (i 949), (i 539), (s "/claim/cut.py" 950)]
noncomputable def o576 (P : Params) : Obj := fb (sn 86) o "vectorcove.sorting" 877 575
noncomputable def o577 (P : Params) : Obj := tu []
noncomputable def o580 (P : Params) : Obj := co [(s "each_key" 952), (s "each_key" 953), (s "/claim/cut.py" 954), (i 551), (i 2), (i 0), (i 0), (i 3), (r 577), (.bool true), (i 181), (r 578), o, o, o, (r 579), (i 955), (i 551), (s "/claim/cut.py" 956)]
noncomputable def o581 (P : Params) : Obj := fb (sn 87) o "vectorcove.sorting" 877 580
noncomputable def o582 (P : Params) : Obj := tu []
noncomputable def o584 (P : Params) : Obj := tu [(s "vs" 961), (s "na_last" 962), (s "places" 963), (s "place" 964), (s "keep" 965), (s "v" 966)]
noncomputable def o585 (P : Params) : Obj := tu []
noncomputable def o587 (P : Params) : Obj := co [(s "kept_places" 958), (s "kept_places" 959), (s "/claim/cut.py" 960), (i 555), (i 2), (i 0), (i 0), (i 3), (r 582), (.bool true), (i 181), (r 583), o, (r 584), (r 585), (r 586), (i 967), (i 555), (s "/claim/cut.py" 968)]
noncomputable def o588 (P : Params) : Obj := fb (sn 88) o "vectorcove.sorting" 877 587
noncomputable def o589 (P : Params) : Obj := tu [(.bool false), (.bool true)]
noncomputable def o590 (P : Params) : Obj := tu []
noncomputable def o592 (P : Params) : Obj := tu [(s "vs" 973), (s "decreasing" 974), (s "na_last" 975), (s "v" 976), (s "flags" 977)]
noncomputable def o593 (P : Params) : Obj := tu []
noncomputable def o595 (P : Params) : Obj := co [(s "order_by" 970), (s "order_by" 971), (s "/claim/cut.py" 972), (i 566), (i 3), (i 0), (i 0), (i 3), (r 590), (.bool true), (i 181), (r 591), o, (r 592), (r 593), (r 594), (i 978), (i 566), (s "/claim/cut.py" 979)]
noncomputable def o596 (P : Params) : Obj := fb (sn 89) (r 589) "vectorcove.sorting" 877 595
noncomputable def o597 (P : Params) : Obj := tu []
noncomputable def o599 (P : Params) : Obj := tu [(s "v" 986)]
noncomputable def o600 (P : Params) : Obj := tu []
noncomputable def o602 (P : Params) : Obj := co [(s "is_factor" 983), (s "is_factor" 984), (s "/claim/cut.py" 985), (i 576), (i 1), (i 0), (i 0), (i 3), (r 597), (.bool true), (i 181), (r 598), o, (r 599), (r 600), (r 601), (i 987), (i 576), (s "/claim/cut.py" 988)]
noncomputable def o603 (P : Params) : Obj := fb (sn 91) o "vectorcove.frames" 981 602
noncomputable def o604 (P : Params) : Obj := tu []
noncomputable def o607 (P : Params) : Obj := co [(s "new_frame" 990), (s "new_frame" 991), (s "/claim/cut.py" 992), (i 578), (i 3), (i 0), (i 0), (i 3), (r 604), (.bool true), (i 181), (r 605), o, o, o, (r 606), (i 993), (i 578), (s "/claim/cut.py" 994)]
noncomputable def o608 (P : Params) : Obj := fb (sn 92) o "vectorcove.frames" 981 607
noncomputable def o609 (P : Params) : Obj := tu []
noncomputable def o611 (P : Params) : Obj := tu [(s "count" 999)]
noncomputable def o612 (P : Params) : Obj := tu []
noncomputable def o614 (P : Params) : Obj := co [(s "plain_rows" 996), (s "plain_rows" 997), (s "/claim/cut.py" 998), (i 582), (i 1), (i 0), (i 0), (i 3), (r 609), (.bool true), (i 181), (r 610), o, (r 611), (r 612), (r 613), (i 1000), (i 582), (s "/claim/cut.py" 1001)]
noncomputable def o615 (P : Params) : Obj := fb (sn 93) o "vectorcove.frames" 981 614
noncomputable def o616 (P : Params) : Obj := tu []
noncomputable def o618 (P : Params) : Obj := tu [(s "df" 1006)]
noncomputable def o619 (P : Params) : Obj := tu []
noncomputable def o621 (P : Params) : Obj := co [(s "frame_rows" 1003), (s "frame_rows" 1004), (s "/claim/cut.py" 1005), (i 584), (i 1), (i 0), (i 0), (i 3), (r 616), (.bool true), (i 181), (r 617), o, (r 618), (r 619), (r 620), (i 1007), (i 584), (s "/claim/cut.py" 1008)]
noncomputable def o622 (P : Params) : Obj := fb (sn 94) o "vectorcove.frames" 981 621
noncomputable def o623 (P : Params) : Obj := tu []
noncomputable def o626 (P : Params) : Obj := co [(s "column_names" 1010), (s "column_names" 1011), (s "/claim/cut.py" 1012), (i 588), (i 1), (i 0), (i 0), (i 3), (r 623), (.bool true), (i 181), (r 624), o, o, o, (r 625), (i 1013), (i 588), (s "/claim/cut.py" 1014)]
noncomputable def o627 (P : Params) : Obj := fb (sn 95) o "vectorcove.frames" 981 626
noncomputable def o628 (P : Params) : Obj := tu []
noncomputable def o630 (P : Params) : Obj := tu [(s "column" 1019), (s "kept" 1020), (s "name" 1021)]
noncomputable def o631 (P : Params) : Obj := tu []
noncomputable def o633 (P : Params) : Obj := co [(s "kept_attrs" 1016), (s "kept_attrs" 1017), (s "/claim/cut.py" 1018), (i 591), (i 1), (i 0), (i 0), (i 3), (r 628), (.bool true), (i 181), (r 629), o, (r 630), (r 631), (r 632), (i 1022), (i 591), (s "/claim/cut.py" 1023)]
noncomputable def o634 (P : Params) : Obj := fb (sn 96) o "vectorcove.frames" 981 633
noncomputable def o635 (P : Params) : Obj := tu []
noncomputable def o637 (P : Params) : Obj := tu [(s "kind" 1028)]
noncomputable def o638 (P : Params) : Obj := tu []
noncomputable def o640 (P : Params) : Obj := co [(s "lacking" 1025), (s "lacking" 1026), (s "/claim/cut.py" 1027), (i 599), (i 1), (i 0), (i 0), (i 3), (r 635), (.bool true), (i 181), (r 636), o, (r 637), (r 638), (r 639), (i 1029), (i 599), (s "/claim/cut.py" 1030)]
noncomputable def o641 (P : Params) : Obj := fb (sn 97) o "vectorcove.frames" 981 640
noncomputable def o642 (P : Params) : Obj := tu []
noncomputable def o644 (P : Params) : Obj := tu [(s "column" 1035), (s "places" 1036), (s "items" 1037), (s "count" 1038), (s "place" 1039)]
noncomputable def o645 (P : Params) : Obj := tu []
noncomputable def o647 (P : Params) : Obj := co [(s "pick_items" 1032), (s "pick_items" 1033), (s "/claim/cut.py" 1034), (i 603), (i 2), (i 0), (i 0), (i 3), (r 642), (.bool true), (i 181), (r 643), o, (r 644), (r 645), (r 646), (i 1040), (i 603), (s "/claim/cut.py" 1041)]
noncomputable def o648 (P : Params) : Obj := fb (sn 98) o "vectorcove.frames" 981 647
noncomputable def o649 (P : Params) : Obj := tu []
noncomputable def o651 (P : Params) : Obj := tu [(s "parts" 1048), (s "levels" 1049), (s "known" 1050), (s "part" 1051), (s "texts" 1052), (s "one" 1053), (s "codes" 1054), (s "attrs" 1055)]
noncomputable def o652 (P : Params) : Obj := tu []
noncomputable def o654 (P : Params) : Obj := co [(s "joined_factor" 1045), (s "joined_factor" 1046), (s "/claim/cut.py" 1047), (i 613), (i 1), (i 0), (i 0), (i 3), (r 649), (.bool true), (i 181), (r 650), o, (r 651), (r 652), (r 653), (i 1056), (i 613), (s "/claim/cut.py" 1057)]
noncomputable def o655 (P : Params) : Obj := fb (sn 100) o "vectorcove.framebind" 1043 654
noncomputable def o656 (P : Params) : Obj := tu []
noncomputable def o659 (P : Params) : Obj := co [(s "joined_column" 1059), (s "joined_column" 1060), (s "/claim/cut.py" 1061), (i 629), (i 1), (i 0), (i 0), (i 3), (r 656), (.bool true), (i 181), (r 657), o, o, o, (r 658), (i 1062), (i 629), (s "/claim/cut.py" 1063)]
noncomputable def o660 (P : Params) : Obj := fb (sn 101) o "vectorcove.framebind" 1043 659
noncomputable def o661 (P : Params) : Obj := tu []
noncomputable def o664 (P : Params) : Obj := co [(s "column_keys" 1067), (s "column_keys" 1068), (s "/claim/cut.py" 1069), (i 646), (i 1), (i 0), (i 0), (i 3), (r 661), (.bool true), (i 181), (r 662), o, o, o, (r 663), (i 1070), (i 646), (s "/claim/cut.py" 1071)]
noncomputable def o665 (P : Params) : Obj := fb (sn 103) o "vectorcove.joins" 1065 664
noncomputable def o666 (P : Params) : Obj := tu []
noncomputable def o669 (P : Params) : Obj := co [(s "row_keys" 1073), (s "row_keys" 1074), (s "/claim/cut.py" 1075), (i 653), (i 2), (i 0), (i 0), (i 3), (r 666), (.bool true), (i 181), (r 667), o, o, o, (r 668), (i 1076), (i 653), (s "/claim/cut.py" 1077)]
noncomputable def o670 (P : Params) : Obj := fb (sn 104) o "vectorcove.joins" 1065 669
noncomputable def o671 (P : Params) : Obj := tu []
noncomputable def o673 (P : Params) : Obj := tu [(s "df" 1082), (s "by" 1083), (s "names" 1084), (s "places" 1085), (s "name" 1086)]
noncomputable def o674 (P : Params) : Obj := tu []
noncomputable def o676 (P : Params) : Obj := co [(s "check_by" 1079), (s "check_by" 1080), (s "/claim/cut.py" 1081), (i 659), (i 2), (i 0), (i 0), (i 3), (r 671), (.bool true), (i 181), (r 672), o, (r 673), (r 674), (r 675), (i 1087), (i 659), (s "/claim/cut.py" 1088)]
noncomputable def o677 (P : Params) : Obj := fb (sn 105) o "vectorcove.joins" 1065 676
noncomputable def o678 (P : Params) : Obj := tu []
noncomputable def o680 (P : Params) : Obj := tu [(s "x_keys" 1093), (s "y_keys" 1094), (s "table" 1095), (s "place" 1096), (s "pairs" 1097), (s "other" 1098)]
noncomputable def o681 (P : Params) : Obj := tu []
noncomputable def o683 (P : Params) : Obj := co [(s "matched_pairs" 1090), (s "matched_pairs" 1091), (s "/claim/cut.py" 1092), (i 667), (i 2), (i 0), (i 0), (i 3), (r 678), (.bool true), (i 181), (r 679), o, (r 680), (r 681), (r 682), (i 1099), (i 667), (s "/claim/cut.py" 1100)]
noncomputable def o684 (P : Params) : Obj := fb (sn 106) o "vectorcove.joins" 1065 683
noncomputable def o685 (P : Params) : Obj := tu []
noncomputable def o688 (P : Params) : Obj := co [(s "lone_places" 1102), (s "lone_places" 1103), (s "/claim/cut.py" 1104), (i 676), (i 2), (i 0), (i 0), (i 3), (r 685), (.bool true), (i 181), (r 686), o, o, o, (r 687), (i 1105), (i 676), (s "/claim/cut.py" 1106)]
noncomputable def o689 (P : Params) : Obj := fb (sn 107) o "vectorcove.joins" 1065 688
noncomputable def o690 (P : Params) : Obj := tu []
noncomputable def o692 (P : Params) : Obj := tu [(s "first" 1111), (s "second" 1112), (s "pairs" 1113), (s "other" 1114), (s "place" 1115)]
noncomputable def o693 (P : Params) : Obj := tu []
noncomputable def o695 (P : Params) : Obj := co [(s "all_pairs" 1108), (s "all_pairs" 1109), (s "/claim/cut.py" 1110), (i 681), (i 2), (i 0), (i 0), (i 3), (r 690), (.bool true), (i 181), (r 691), o, (r 692), (r 693), (r 694), (i 1116), (i 681), (s "/claim/cut.py" 1117)]
noncomputable def o696 (P : Params) : Obj := fb (sn 108) o "vectorcove.joins" 1065 695
noncomputable def o697 (P : Params) : Obj := tu []
noncomputable def o699 (P : Params) : Obj := tu [(s "x_keys" 1122), (s "y_keys" 1123), (s "all_x" 1124), (s "all_y" 1125), (s "pairs" 1126), (s "place" 1127)]
noncomputable def o700 (P : Params) : Obj := tu []
noncomputable def o702 (P : Params) : Obj := co [(s "merged_pairs" 1119), (s "merged_pairs" 1120), (s "/claim/cut.py" 1121), (i 688), (i 4), (i 0), (i 0), (i 3), (r 697), (.bool true), (i 181), (r 698), o, (r 699), (r 700), (r 701), (i 1128), (i 688), (s "/claim/cut.py" 1129)]
noncomputable def o703 (P : Params) : Obj := fb (sn 109) o "vectorcove.joins" 1065 702
noncomputable def o704 (P : Params) : Obj := tu []
noncomputable def o706 (P : Params) : Obj := tu [(s "x" 1134), (s "y" 1135), (s "pairs" 1136), (s "joined" 1137), (s "count" 1138), (s "places" 1139), (s "place" 1140), (s "other" 1141)]
noncomputable def o707 (P : Params) : Obj := tu []
noncomputable def o709 (P : Params) : Obj := co [(s "key_column" 1131), (s "key_column" 1132), (s "/claim/cut.py" 1133), (i 697), (i 3), (i 0), (i 0), (i 3), (r 704), (.bool true), (i 181), (r 705), o, (r 706), (r 707), (r 708), (i 1142), (i 697), (s "/claim/cut.py" 1143)]
noncomputable def o710 (P : Params) : Obj := fb (sn 110) o "vectorcove.joins" 1065 709
noncomputable def o711 (P : Params) : Obj := tu []
noncomputable def o713 (P : Params) : Obj := tu [(s "names" 1148), (s "others" 1149), (s "by" 1150), (s "suffix" 1151), (s "found" 1152), (s "name" 1153)]
noncomputable def o714 (P : Params) : Obj := tu []
noncomputable def o716 (P : Params) : Obj := co [(s "other_names" 1145), (s "other_names" 1146), (s "/claim/cut.py" 1147), (i 704), (i 4), (i 0), (i 0), (i 3), (r 711), (.bool true), (i 181), (r 712), o, (r 713), (r 714), (r 715), (i 1154), (i 704), (s "/claim/cut.py" 1155)]
noncomputable def o717 (P : Params) : Obj := fb (sn 111) o "vectorcove.joins" 1065 716
noncomputable def o718 (P : Params) : Obj := tu []
noncomputable def o720 (P : Params) : Obj := tu [(s "column" 1160)]
noncomputable def o721 (P : Params) : Obj := tu []
noncomputable def o723 (P : Params) : Obj := co [(s "sort_key" 1157), (s "sort_key" 1158), (s "/claim/cut.py" 1159), (i 710), (i 1), (i 0), (i 0), (i 3), (r 718), (.bool true), (i 181), (r 719), o, (r 720), (r 721), (r 722), (i 1161), (i 710), (s "/claim/cut.py" 1162)]
noncomputable def o724 (P : Params) : Obj := fb (sn 112) o "vectorcove.joins" 1065 723
noncomputable def o725 (P : Params) : Obj := tu []
noncomputable def o728 (P : Params) : Obj := co [(s "merge_order" 1164), (s "merge_order" 1165), (s "/claim/cut.py" 1166), (i 712), (i 2), (i 0), (i 0), (i 3), (r 725), (.bool true), (i 181), (r 726), o, o, o, (r 727), (i 1167), (i 712), (s "/claim/cut.py" 1168)]
noncomputable def o729 (P : Params) : Obj := fb (sn 113) o "vectorcove.joins" 1065 728
noncomputable def o730 (P : Params) : Obj := tu [(.bool true)]
noncomputable def o731 (P : Params) : Obj := tu []
noncomputable def o734 (P : Params) : Obj := co [(s "merge_frames" 1170), (s "merge_frames" 1171), (s "/claim/cut.py" 1172), (i 723), (i 7), (i 0), (i 0), (i 3), (r 731), (.bool true), (i 181), (r 732), o, o, o, (r 733), (i 1173), (i 723), (s "/claim/cut.py" 1174)]
noncomputable def o735 (P : Params) : Obj := fb (sn 114) (r 730) "vectorcove.joins" 1065 734
noncomputable def o736 (P : Params) : Obj := tu []
noncomputable def o738 (P : Params) : Obj := tu [(s "script" 1181), (s "row" 1182), (s "cell" 1183), (s "grain" 1184), (s "each" 1185)]
noncomputable def o739 (P : Params) : Obj := tu []
noncomputable def o741 (P : Params) : Obj := co [(s "_law_stream" 1178), (s "_law_stream" 1179), (s "/claim/cut.py" 1180), (i 751), (i 1), (i 0), (i 0), (i 3), (r 736), (.bool true), (i 181), (r 737), o, (r 738), (r 739), (r 740), (i 1186), (i 751), (s "/claim/cut.py" 1187)]
noncomputable def o742 (P : Params) : Obj := fb (sn 116) o "law_ov0088_01" 1176 741
noncomputable def o743 (P : Params) : Obj := tu []
noncomputable def o746 (P : Params) : Obj := co [(s "_law_side" 1189), (s "_law_side" 1190), (s "/claim/cut.py" 1191), (i 762), (i 4), (i 0), (i 0), (i 3), (r 743), (.bool true), (i 181), (r 744), o, o, o, (r 745), (i 1192), (i 762), (s "/claim/cut.py" 1193)]
noncomputable def o747 (P : Params) : Obj := fb (sn 117) o "law_ov0088_01" 1176 746
noncomputable def o748 (P : Params) : Obj := tu []
noncomputable def o751 (P : Params) : Obj := co [(s "_law_lines" 1195), (s "_law_lines" 1196), (s "/claim/cut.py" 1197), (i 777), (i 2), (i 0), (i 0), (i 3), (r 748), (.bool true), (i 181), (r 749), o, o, o, (r 750), (i 1198), (i 777), (s "/claim/cut.py" 1199)]
noncomputable def o752 (P : Params) : Obj := fb (sn 118) o "law_ov0088_01" 1176 751
noncomputable def o753 (P : Params) : Obj := tu []
noncomputable def o756 (P : Params) : Obj := co [(s "_law_ascends" 1201), (s "_law_ascends" 1202), (s "/claim/cut.py" 1203), (i 785), (i 1), (i 0), (i 0), (i 3), (r 753), (.bool true), (i 181), (r 754), o, o, o, (r 755), (i 1204), (i 785), (s "/claim/cut.py" 1205)]
noncomputable def o757 (P : Params) : Obj := fb (sn 119) o "law_ov0088_01" 1176 756
noncomputable def o758 (P : Params) : Obj := tu []
noncomputable def o761 (P : Params) : Obj := co [(s "law" 1207), (s "law" 1208), (s "/claim/cut.py" 1209), (i 788), (i 1), (i 0), (i 0), (i 3), (r 758), (.bool true), (i 181), (r 759), o, o, o, (r 760), (i 1210), (i 788), (s "/claim/cut.py" 1211)]
noncomputable def o762 (P : Params) : Obj := fb (sn 120) o "law_ov0088_01" 1176 761
noncomputable def L (P : Params) (a2 a3 a12 a243 : Obj) : List Obj := [boot_o_0 P, boot_o_1 P, a2, a3, boot_o_4 P, boot_o_5 P, boot_o_6 P, boot_o_7 P, boot_o_8 P, boot_o_9 P, boot_o_10 P, tu [], a12, co [(s "<module>" 182), (s "<module>" 183), (s "/claim/cut.py" 184), (i 1), (i 0), (i 0), (i 0), (i 0), (r 11), (.bool false), (i 181), (r 12), o, o, o, o, (i 185), (i 1), (s "/claim/cut.py" 186)], fm [(some (r 13)), (some (r 3)), (some (r 3)), none, (some (s "__main__" 164)), none, (some (r 0))], o15 P, nf [], o17 P, o18 P, fa (sn 0), o20 P, o21 P, o22 P, o23 P, o24 P, o25 P, nf [], o27 P, o28 P, fa (sn 5), o30 P, o31 P, o32 P, nf [], o34 P, o35 P, fa (sn 6), o37 P, o38 P, o39 P, nf [], o41 P, o42 P, fa (sn 7), o44 P, o45 P, o46 P, nf [], o48 P, o49 P, fa (sn 8), o51 P, o52 P, o53 P, nf [], o55 P, o56 P, fa (sn 9), o58 P, o59 P, o60 P, nf [], o62 P, o63 P, fa (sn 10), o65 P, o66 P, o67 P, nf [], o69 P, o70 P, fa (sn 11), o72 P, o73 P, o74 P, nf [], o76 P, o77 P, fa (sn 12), o79 P, o80 P, o81 P, nf [], o83 P, o84 P, fa (sn 13), o86 P, o87 P, o88 P, nf [], o90 P, o91 P, fa (sn 14), o93 P, o94 P, o95 P, nf [], o97 P, o98 P, fa (sn 17), o100 P, o101 P, o102 P, nf [], o104 P, o105 P, fa (sn 18), o107 P, o108 P, o109 P, nf [], o111 P, o112 P, fa (sn 19), o114 P, o115 P, o116 P, nf [], o118 P, o119 P, fa (sn 20), o121 P, o122 P, o123 P, nf [], o125 P, o126 P, fa (sn 21), o128 P, o129 P, o130 P, nf [], o132 P, o133 P, fa (sn 22), o135 P, o136 P, o137 P, nf [], o139 P, o140 P, fa (sn 23), o142 P, o143 P, o144 P, nf [], o146 P, o147 P, fa (sn 24), o149 P, o150 P, o151 P, nf [], o153 P, o154 P, fa (sn 25), o156 P, o157 P, o158 P, nf [], o160 P, o161 P, fa (sn 26), o163 P, o164 P, o165 P, nf [], fa (sn 27), o168 P, o169 P, o170 P, o171 P, nf [], o173 P, o174 P, fa (sn 28), o176 P, o177 P, o178 P, nf [], o180 P, o181 P, fa (sn 29), o183 P, o184 P, o185 P, nf [], o187 P, o188 P, fa (sn 30), o190 P, o191 P, o192 P, nf [], o194 P, o195 P, fa (sn 31), o197 P, o198 P, o199 P, nf [], o201 P, o202 P, fa (sn 32), o204 P, o205 P, o206 P, nf [], o208 P, o209 P, fa (sn 33), o211 P, o212 P, o213 P, nf [], o215 P, o216 P, fa (sn 34), o218 P, o219 P, o220 P, nf [], o222 P, o223 P, fa (sn 35), o225 P, o226 P, o227 P, nf [], o229 P, o230 P, fa (sn 36), o232 P, o233 P, o234 P, fo "builtin_function_or_method" [(u "type.__prepare__"), (y "type")], di P [e "__module__" 509 (s "vectorcove.errors" 500), e "__qualname__" 511 (s "CoveError" 510), e "__firstlineno__" 513 (.int (272) 512), e "__static_attributes__" 514 (r 241)] 4, tu [], nf [], co [(s "CoveError" 504), (s "CoveError" 505), (s "/claim/cut.py" 506), (i 272), (i 0), (i 0), (i 0), (i 0), (r 237), (.bool false), (i 181), (r 238), o, o, o, o, (i 507), (i 272), (s "/claim/cut.py" 508)], fm [(some (r 239)), (some (r 3)), (some (r 236)), none, (some (s "vectorcove.errors" 500)), none, (some (r 0))], o241 P, o242 P, a243, o244 P, fo "super" [(r 243), (r 243), (r 243)], fo "builtin_function_or_method" [(u "object.__init_subclass__"), (r 243)], o247 P, fo "builtin_function_or_method" [(u "type.__prepare__"), (y "type")], di P [e "__module__" 529 (s "vectorcove.errors" 500), e "__qualname__" 531 (s "Refusal" 530), e "__firstlineno__" 533 (.int (274) 532), e "__init__" 541 (r 260), e "__static_attributes__" 543 (r 261)] 5, tu [], nf [(i 276), (i 4), (r 259)], co [(s "Refusal" 524), (s "Refusal" 525), (s "/claim/cut.py" 526), (i 274), (i 0), (i 0), (i 0), (i 0), (r 250), (.bool false), (i 181), (r 251), o, o, o, o, (i 527), (i 274), (s "/claim/cut.py" 528)], fm [(some (r 252)), (some (r 3)), (some (r 249)), none, (some (s "vectorcove.errors" 500)), none, (some (r 0))], o254 P, nf [], o256 P, o257 P, fq (mt 39 0) "Refusal.__init__", o259 P, o260 P, o261 P, o262 P, o263 P, fo "super" [(r 263), (r 263), (r 263)], fo "builtin_function_or_method" [(u "object.__init_subclass__"), (r 263)], tu [], fo "builtin_function_or_method" [(u "type.__prepare__"), (y "type")], di P [e "__module__" 558 (s "vectorcove.values" 547), e "__qualname__" 560 (s "Null" 559), e "__firstlineno__" 562 (.int (280) 561), e "__init__" 569 (r 279), e "__static_attributes__" 572 (r 280)] 5, tu [], nf [(i 282), (i 4), (r 278)], co [(s "Null" 553), (s "Null" 554), (s "/claim/cut.py" 555), (i 280), (i 0), (i 0), (i 0), (i 0), (r 269), (.bool false), (i 181), (r 270), o, o, o, o, (i 556), (i 280), (s "/claim/cut.py" 557)], fm [(some (r 271)), (some (r 3)), (some (r 268)), none, (some (s "vectorcove.values" 547)), none, (some (r 0))], o273 P, nf [], o275 P, o276 P, fq (mt 42 0) "Null.__init__", o278 P, o279 P, o280 P, o281 P, o282 P, o283 P, o284 P, fo "super" [(r 282), (r 282), (r 282)], fo "builtin_function_or_method" [(u "object.__init_subclass__"), (r 282)], tu [], fo "builtin_function_or_method" [(u "type.__prepare__"), (y "type")], di P [e "__module__" 587 (s "vectorcove.values" 547), e "__qualname__" 589 (s "Vector" 588), e "__firstlineno__" 591 (.int (285) 590), e "__init__" 601 (r 301), e "copy" 608 (r 308), e "__static_attributes__" 614 (r 309)] 6, tu [], nf [(i 287), (i 4), (r 300), (i 294), (i 4), (r 307)], co [(s "Vector" 582), (s "Vector" 583), (s "/claim/cut.py" 584), (i 285), (i 0), (i 0), (i 0), (i 0), (r 290), (.bool false), (i 181), (r 291), o, o, o, o, (i 585), (i 285), (s "/claim/cut.py" 586)], fm [(some (r 292)), (some (r 3)), (some (r 289)), none, (some (s "vectorcove.values" 547)), none, (some (r 0))], o294 P, o295 P, nf [], o297 P, o298 P, fq (mt 43 0) "Vector.__init__", o300 P, o301 P, o302 P, nf [], o304 P, o305 P, fq (mt 43 1) "Vector.copy", o307 P, o308 P, o309 P, o310 P, o311 P, o312 P, o313 P, fo "super" [(r 311), (r 311), (r 311)], fo "builtin_function_or_method" [(u "object.__init_subclass__"), (r 311)], o316 P, nf [], o318 P, o319 P, fa (sn 44), o321 P, o322 P, o323 P, nf [], o325 P, o326 P, fa (sn 45), o328 P, o329 P, o330 P, nf [], o332 P, o333 P, fa (sn 46), o335 P, o336 P, o337 P, nf [], o339 P, o340 P, fa (sn 47), o342 P, o343 P, o344 P, nf [], o346 P, o347 P, fa (sn 48), o349 P, o350 P, o351 P, nf [], o353 P, o354 P, fa (sn 49), o356 P, o357 P, o358 P, nf [], o360 P, o361 P, fa (sn 51), o363 P, o364 P, o365 P, nf [], o367 P, o368 P, fa (sn 52), o370 P, o371 P, o372 P, nf [], o374 P, o375 P, fa (sn 53), o377 P, o378 P, o379 P, nf [], fa (sn 54), o382 P, o383 P, o384 P, nf [], fa (sn 55), o387 P, o388 P, o389 P, nf [], o391 P, o392 P, fa (sn 56), o394 P, o395 P, o396 P, nf [], fa (sn 57), o399 P, o400 P, o401 P, nf [], o403 P, o404 P, fa (sn 58), o406 P, o407 P, o408 P, nf [], o410 P, o411 P, fa (sn 61), o413 P, o414 P, o415 P, nf [], o417 P, o418 P, fa (sn 62), o420 P, o421 P, o422 P, nf [], o424 P, o425 P, fa (sn 63), o427 P, o428 P, o429 P, nf [], o431 P, o432 P, fa (sn 64), o434 P, o435 P, o436 P, nf [], o438 P, o439 P, fa (sn 65), o441 P, o442 P, o443 P, nf [], o445 P, o446 P, fa (sn 66), o448 P, o449 P, o450 P, nf [], o452 P, o453 P, fa (sn 67), o455 P, o456 P, o457 P, nf [], o459 P, o460 P, fa (sn 68), o462 P, o463 P, o464 P, nf [], o466 P, o467 P, fa (sn 69), o469 P, o470 P, o471 P, nf [], o473 P, o474 P, fa (sn 70), o476 P, o477 P, o478 P, nf [], o480 P, o481 P, fa (sn 71), o483 P, o484 P, o485 P, nf [], o487 P, o488 P, fa (sn 72), o490 P, o491 P, o492 P, nf [], o494 P, o495 P, fa (sn 73), o497 P, o498 P, o499 P, nf [], o501 P, o502 P, fa (sn 74), o504 P, o505 P, o506 P, nf [], fa (sn 75), o509 P, o510 P, o511 P, nf [], o513 P, o514 P, fa (sn 76), o516 P, o517 P, o518 P, nf [], fa (sn 77), o521 P, o522 P, o523 P, nf [], o525 P, o526 P, fa (sn 78), o528 P, o529 P, o530 P, nf [], o532 P, o533 P, fa (sn 80), o535 P, o536 P, o537 P, nf [], o539 P, o540 P, fa (sn 81), o542 P, o543 P, o544 P, nf [], o546 P, o547 P, fa (sn 82), o549 P, o550 P, o551 P, nf [], o553 P, o554 P, fa (sn 83), o556 P, o557 P, o558 P, nf [], o560 P, o561 P, fa (sn 84), o563 P, o564 P, o565 P, nf [], o567 P, o568 P, fa (sn 85), o570 P, o571 P, o572 P, nf [], fa (sn 86), o575 P, o576 P, o577 P, nf [], fa (sn 87), o580 P, o581 P, o582 P, nf [], o584 P, o585 P, fa (sn 88), o587 P, o588 P, o589 P, o590 P, nf [], o592 P, o593 P, fa (sn 89), o595 P, o596 P, o597 P, nf [], o599 P, o600 P, fa (sn 91), o602 P, o603 P, o604 P, nf [], fa (sn 92), o607 P, o608 P, o609 P, nf [], o611 P, o612 P, fa (sn 93), o614 P, o615 P, o616 P, nf [], o618 P, o619 P, fa (sn 94), o621 P, o622 P, o623 P, nf [], fa (sn 95), o626 P, o627 P, o628 P, nf [], o630 P, o631 P, fa (sn 96), o633 P, o634 P, o635 P, nf [], o637 P, o638 P, fa (sn 97), o640 P, o641 P, o642 P, nf [], o644 P, o645 P, fa (sn 98), o647 P, o648 P, o649 P, nf [], o651 P, o652 P, fa (sn 100), o654 P, o655 P, o656 P, nf [], fa (sn 101), o659 P, o660 P, o661 P, nf [], fa (sn 103), o664 P, o665 P, o666 P, nf [], fa (sn 104), o669 P, o670 P, o671 P, nf [], o673 P, o674 P, fa (sn 105), o676 P, o677 P, o678 P, nf [], o680 P, o681 P, fa (sn 106), o683 P, o684 P, o685 P, nf [], fa (sn 107), o688 P, o689 P, o690 P, nf [], o692 P, o693 P, fa (sn 108), o695 P, o696 P, o697 P, nf [], o699 P, o700 P, fa (sn 109), o702 P, o703 P, o704 P, nf [], o706 P, o707 P, fa (sn 110), o709 P, o710 P, o711 P, nf [], o713 P, o714 P, fa (sn 111), o716 P, o717 P, o718 P, nf [], o720 P, o721 P, fa (sn 112), o723 P, o724 P, o725 P, nf [], fa (sn 113), o728 P, o729 P, o730 P, o731 P, nf [], fa (sn 114), o734 P, o735 P, o736 P, nf [], o738 P, o739 P, fa (sn 116), o741 P, o742 P, o743 P, nf [], fa (sn 117), o746 P, o747 P, o748 P, nf [], fa (sn 118), o751 P, o752 P, o753 P, nf [], fa (sn 119), o756 P, o757 P, o758 P, nf [], fa (sn 120), o761 P, o762 P]
noncomputable def alt : List Obj → List Obj × List Obj
  | [] => ([], [])
  | x :: xs => (x :: (alt xs).2, (alt xs).1)
noncomputable def bt : Nat → List Obj → BT
  | 0, _ => .nil
  | _ + 1, [] => .nil
  | n + 1, x :: xs => .node x (bt n (alt xs).1) (bt n (alt xs).2)
noncomputable abbrev ann : Option Value := some (.ref 6)
noncomputable abbrev life : Life := {}
noncomputable def env : Env := { scope := pw.main.scope, locals := mainNs, globals := mainNs, cells := [], code := .ref 13, frame := some 14 }
noncomputable def cE : Code := .body pb env
noncomputable abbrev B : List Frame := [topFrame ⟨0, 0, 0, 0⟩]
noncomputable def h0 (P : Params) : Heap := ⟨⟨(L P (dn P [] 0) (di P ((m3 (s "__main__" 164)).take 9) 9) (nf (l12.take 0)) (o243 P)).take 15⟩, life⟩
noncomputable def t0 (P : Params) : BT := bt 12 ((L P (dn P [] 0) (di P ((m3 (s "__main__" 164)).take 9) 9) (nf (l12.take 0)) (o243 P)).take 15)
noncomputable def S0 (w : World) (os : OsState) : SharedT := ⟨t0 w.params, 15, life, ⟨[]⟩, {}, 187, os⟩
noncomputable def t1 (P : Params) : BT := bt 12 ((L P (dn P [] 0) (di P ((m3 (s "vectorcove.numtext" 288)).take 24) 24) (nf (l12.take 33)) (o243 P)).take 95)
noncomputable def S1 (w : World) (os : OsState) : SharedT := ⟨t1 w.params, 95, life, ⟨[]⟩, {}, 292, os⟩
noncomputable def t2 (P : Params) : BT := bt 12 ((L P (dn P [] 0) (di P ((m3 (s "vectorcove.numtext" 288)).take 36) 36) (nf (l12.take 69)) (o243 P)).take 178)
noncomputable def S2 (w : World) (os : OsState) : SharedT := ⟨t2 w.params, 178, life, ⟨[]⟩, {}, 413, os⟩
noncomputable def t3 (P : Params) : BT := bt 12 ((L P (dn P [] 0) (di P ((m3 (s "vectorcove.errors" 500)).take 44) 44) (nf (l12.take 93)) (o243 P)).take 234)
noncomputable def S3 (w : World) (os : OsState) : SharedT := ⟨t3 w.params, 234, life, ⟨[]⟩, {}, 502, os⟩
noncomputable def t4 (P : Params) : BT := bt 12 ((L P (o2 P) (di P ((m3 (s "vectorcove.errors" 500)).take 45) 45) (nf (l12.take 96)) (ty "CoveError" [(y "Exception")] [(r 243), (y "Exception"), (y "BaseException"), (y "object")] 242 "CoveError" [] [(some (r 234)), none, (some (s "CoveError" 502)), (some (s "CoveError" 510)), (some (u "Exception.__new__")), (some (.bool true))])).take 247)
noncomputable def S4 (w : World) (os : OsState) : SharedT := ⟨t4 w.params, 247, life, ⟨[]⟩, {}, 522, os⟩
noncomputable def t5 (P : Params) : BT := bt 12 ((L P (o2 P) (di P ((m3 (s "vectorcove.values" 547)).take 47) 47) (nf (l12.take 99)) (o243 P)).take 266)
noncomputable def S5 (w : World) (os : OsState) : SharedT := ⟨t5 w.params, 266, life, ⟨[]⟩, {}, 551, os⟩
noncomputable def t6 (P : Params) : BT := bt 12 ((L P (o2 P) (di P ((m3 (s "vectorcove.values" 547)).take 48) 48) (nf (l12.take 102)) (o243 P)).take 287)
noncomputable def S6 (w : World) (os : OsState) : SharedT := ⟨t6 w.params, 287, life, ⟨[]⟩, {}, 580, os⟩
noncomputable def t7 (P : Params) : BT := bt 12 ((L P (o2 P) (di P ((m3 (s "vectorcove.values" 547)).take 53) 53) (nf (l12.take 117)) (o243 P)).take 344)
noncomputable def S7 (w : World) (os : OsState) : SharedT := ⟨t7 w.params, 344, life, ⟨[]⟩, {}, 651, os⟩
noncomputable def t8 (P : Params) : BT := bt 12 ((L P (o2 P) (di P ((m3 (s "vectorcove.coerce" 725)).take 66) 66) (nf (l12.take 153)) (o243 P)).take 422)
noncomputable def S8 (w : World) (os : OsState) : SharedT := ⟨t8 w.params, 422, life, ⟨[]⟩, {}, 747, os⟩
noncomputable def t9 (P : Params) : BT := bt 12 ((L P (o2 P) (di P ((m3 (s "vectorcove.coerce" 725)).take 79) 79) (nf (l12.take 192)) (o243 P)).take 511)
noncomputable def S9 (w : World) (os : OsState) : SharedT := ⟨t9 w.params, 511, life, ⟨[]⟩, {}, 856, os⟩
noncomputable def t10 (P : Params) : BT := bt 12 ((L P (o2 P) (di P ((m3 (s "vectorcove.sorting" 877)).take 91) 91) (nf (l12.take 228)) (o243 P)).take 589)
noncomputable def S10 (w : World) (os : OsState) : SharedT := ⟨t10 w.params, 589, life, ⟨[]⟩, {}, 970, os⟩
noncomputable def t11 (P : Params) : BT := bt 12 ((L P (o2 P) (di P ((m3 (s "vectorcove.joins" 1065)).take 103) 103) (nf (l12.take 264)) (o243 P)).take 666)
noncomputable def S11 (w : World) (os : OsState) : SharedT := ⟨t11 w.params, 666, life, ⟨[]⟩, {}, 1073, os⟩
noncomputable def t12 (P : Params) : BT := bt 12 ((L P (o2 P) (di P ((m3 (s "law_ov0088_01" 1176)).take 115) 115) (nf (l12.take 300)) (o243 P)).take 743)
noncomputable def S12 (w : World) (os : OsState) : SharedT := ⟨t12 w.params, 743, life, ⟨[]⟩, {}, 1189, os⟩
noncomputable def t13 (P : Params) : BT := bt 12 ((L P (o2 P) (o3 P) (o12 P) (o243 P)).take 763)
noncomputable def S13 (w : World) (os : OsState) : SharedT := ⟨t13 w.params, 763, life, ⟨[]⟩, {}, 1213, os⟩
noncomputable def h1 (P : Params) : Heap := ⟨⟨L P (o2 P) (o3 P) (o12 P) (o243 P)⟩, life⟩
theorem pre (w : World) : (fun os => topGo treeTable pw w 11 ann 12 ⟨boot_heap w.params, ⟨[]⟩, boot_drawn, boot_toks, os⟩ (topStub pw)) =
    fun os => some ((⟨h0 w.params, ⟨[]⟩, {}, 187, os⟩ : Shared), (⟨denote treeTable cE, cE, ⟨0, 0, 0, 0⟩, B⟩ : Thread)) := by kernel_rfl
theorem blk (w : World) : (fun os => segRun treeTable pw w 11 ann 1 1 ⟨h0 w.params, ⟨[]⟩, {}, 187, os⟩ (blockOf pb env cE ⟨0, 0, 0, 0⟩ B)) =
    fun os => some (Flow.next, (S0 w os).abs, cE, ⟨0, 0, 0, 0⟩) := by kernel_rfl
noncomputable def c0 : List Stmt := (pb.drop 0).take 17
theorem p0 (w : World) : (fun os => segRunT treeTable pw w 11 ann 1 396 (S0 w os) (piecesOf c0 env cE ⟨0, 0, 0, 0⟩ B)) =
    fun os => some (Flow.next, S1 w os, cE, ⟨75, 0, 75, 13⟩) := by kernel_rfl
noncomputable def c1 : List Stmt := (pb.drop 17).take 12
theorem p1 (w : World) : (fun os => segRunT treeTable pw w 11 ann 1 385 (S1 w os) (piecesOf c1 env cE ⟨75, 0, 75, 13⟩ B)) =
    fun os => some (Flow.next, S2 w os, cE, ⟨167, 0, 168, 39⟩) := by kernel_rfl
noncomputable def c2 : List Stmt := (pb.drop 29).take 9
theorem p2 (w : World) : (fun os => segRunT treeTable pw w 11 ann 1 273 (S2 w os) (piecesOf c2 env cE ⟨167, 0, 168, 39⟩ B)) =
    fun os => some (Flow.next, S3 w os, cE, ⟨271, 0, 271, 8⟩) := by kernel_rfl
noncomputable def c3 : List Stmt := (pb.drop 38).take 1
theorem p3 (w : World) : (fun os => segRunT treeTable pw w 11 ann 1 197 (S3 w os) (piecesOf c3 env cE ⟨271, 0, 271, 8⟩ B)) =
    fun os => some (Flow.next, S4 w os, cE, ⟨272, 0, 273, 8⟩) := by kernel_rfl
noncomputable def c4 : List Stmt := (pb.drop 39).take 3
theorem p4 (w : World) : (fun os => segRunT treeTable pw w 11 ann 1 264 (S4 w os) (piecesOf c4 env cE ⟨272, 0, 273, 8⟩ B)) =
    fun os => some (Flow.next, S5 w os, cE, ⟨279, 0, 279, 11⟩) := by kernel_rfl
noncomputable def c5 : List Stmt := (pb.drop 42).take 1
theorem p5 (w : World) : (fun os => segRunT treeTable pw w 11 ann 1 223 (S5 w os) (piecesOf c5 env cE ⟨279, 0, 279, 11⟩ B)) =
    fun os => some (Flow.next, S6 w os, cE, ⟨280, 0, 284, 25⟩) := by kernel_rfl
noncomputable def c6 : List Stmt := (pb.drop 43).take 5
theorem p6 (w : World) : (fun os => segRunT treeTable pw w 11 ann 1 378 (S6 w os) (piecesOf c6 env cE ⟨280, 0, 284, 25⟩ B)) =
    fun os => some (Flow.next, S7 w os, cE, ⟨304, 0, 314, 12⟩) := by kernel_rfl
noncomputable def c7 : List Stmt := (pb.drop 48).take 15
theorem p7 (w : World) : (fun os => segRunT treeTable pw w 11 ann 1 376 (S7 w os) (piecesOf c7 env cE ⟨304, 0, 314, 12⟩ B)) =
    fun os => some (Flow.next, S8 w os, cE, ⟨382, 0, 387, 22⟩) := by kernel_rfl
noncomputable def c8 : List Stmt := (pb.drop 63).take 13
theorem p8 (w : World) : (fun os => segRunT treeTable pw w 11 ann 1 394 (S8 w os) (piecesOf c8 env cE ⟨382, 0, 387, 22⟩ B)) =
    fun os => some (Flow.next, S9 w os, cE, ⟨467, 0, 480, 30⟩) := by kernel_rfl
noncomputable def c9 : List Stmt := (pb.drop 76).take 13
theorem p9 (w : World) : (fun os => segRunT treeTable pw w 11 ann 1 380 (S9 w os) (piecesOf c9 env cE ⟨467, 0, 480, 30⟩ B)) =
    fun os => some (Flow.next, S10 w os, cE, ⟨555, 0, 565, 17⟩) := by kernel_rfl
noncomputable def c10 : List Stmt := (pb.drop 89).take 15
theorem p10 (w : World) : (fun os => segRunT treeTable pw w 11 ann 1 382 (S10 w os) (piecesOf c10 env cE ⟨555, 0, 565, 17⟩ B)) =
    fun os => some (Flow.next, S11 w os, cE, ⟨646, 0, 652, 42⟩) := by kernel_rfl
noncomputable def c11 : List Stmt := (pb.drop 104).take 13
theorem p11 (w : World) : (fun os => segRunT treeTable pw w 11 ann 1 381 (S11 w os) (piecesOf c11 env cE ⟨646, 0, 652, 42⟩ B)) =
    fun os => some (Flow.next, S12 w os, cE, ⟨751, 0, 761, 14⟩) := by kernel_rfl
noncomputable def c12 : List Stmt := (pb.drop 117).take 4
theorem p12 (w : World) : (fun os => segRunT treeTable pw w 11 ann 1 105 (S12 w os) (piecesOf c12 env cE ⟨751, 0, 761, 14⟩ B)) =
    fun os => some (Flow.next, S13 w os, cE, ⟨788, 0, 829, 48⟩) := by kernel_rfl
theorem fin (w : World) : (fun os => topRun treeTable pw w 11 ann 2 (S13 w os).abs ⟨doneF .next, cE, ⟨788, 0, 829, 48⟩, B⟩) =
    fun os => some (⟨h1 w.params, ⟨[]⟩, {}, 1213, os⟩ : Shared) := by kernel_rfl
theorem pbs : pb = (c0 ++ (c1 ++ (c2 ++ (c3 ++ (c4 ++ (c5 ++ (c6 ++ (c7 ++ (c8 ++ (c9 ++ (c10 ++ (c11 ++ (c12 ++ []))))))))))))) := by kernel_rfl
theorem rest0 (w : World) (os : OsState) : topRun treeTable pw w 11 ann (396 + (385 + (273 + (197 + (264 + (223 + (378 + (376 + (394 + (380 + (382 + (381 + (105 + 2))))))))))))) (S0 w os).abs (restOf (c0 ++ (c1 ++ (c2 ++ (c3 ++ (c4 ++ (c5 ++ (c6 ++ (c7 ++ (c8 ++ (c9 ++ (c10 ++ (c11 ++ (c12 ++ []))))))))))))) env cE ⟨0, 0, 0, 0⟩ B) = some (⟨h1 w.params, ⟨[]⟩, {}, 1213, os⟩ : Shared) :=
  piece_app (l := c0) (rest := (c1 ++ (c2 ++ (c3 ++ (c4 ++ (c5 ++ (c6 ++ (c7 ++ (c8 ++ (c9 ++ (c10 ++ (c11 ++ (c12 ++ []))))))))))))) (segRun_of (congrFun (p0 w) os)) (piece_app (l := c1) (rest := (c2 ++ (c3 ++ (c4 ++ (c5 ++ (c6 ++ (c7 ++ (c8 ++ (c9 ++ (c10 ++ (c11 ++ (c12 ++ [])))))))))))) (segRun_of (congrFun (p1 w) os)) (piece_app (l := c2) (rest := (c3 ++ (c4 ++ (c5 ++ (c6 ++ (c7 ++ (c8 ++ (c9 ++ (c10 ++ (c11 ++ (c12 ++ []))))))))))) (segRun_of (congrFun (p2 w) os)) (piece_app (l := c3) (rest := (c4 ++ (c5 ++ (c6 ++ (c7 ++ (c8 ++ (c9 ++ (c10 ++ (c11 ++ (c12 ++ [])))))))))) (segRun_of (congrFun (p3 w) os)) (piece_app (l := c4) (rest := (c5 ++ (c6 ++ (c7 ++ (c8 ++ (c9 ++ (c10 ++ (c11 ++ (c12 ++ []))))))))) (segRun_of (congrFun (p4 w) os)) (piece_app (l := c5) (rest := (c6 ++ (c7 ++ (c8 ++ (c9 ++ (c10 ++ (c11 ++ (c12 ++ [])))))))) (segRun_of (congrFun (p5 w) os)) (piece_app (l := c6) (rest := (c7 ++ (c8 ++ (c9 ++ (c10 ++ (c11 ++ (c12 ++ []))))))) (segRun_of (congrFun (p6 w) os)) (piece_app (l := c7) (rest := (c8 ++ (c9 ++ (c10 ++ (c11 ++ (c12 ++ [])))))) (segRun_of (congrFun (p7 w) os)) (piece_app (l := c8) (rest := (c9 ++ (c10 ++ (c11 ++ (c12 ++ []))))) (segRun_of (congrFun (p8 w) os)) (piece_app (l := c9) (rest := (c10 ++ (c11 ++ (c12 ++ [])))) (segRun_of (congrFun (p9 w) os)) (piece_app (l := c10) (rest := (c11 ++ (c12 ++ []))) (segRun_of (congrFun (p10 w) os)) (piece_app (l := c11) (rest := (c12 ++ [])) (segRun_of (congrFun (p11 w) os)) (piece_app (l := c12) (rest := []) (segRun_of (congrFun (p12 w) os)) (congrFun (fin w) os)))))))))))))
theorem run (w : World) (os : OsState) : topRun treeTable pw w 11 ann (12 + (1 + (396 + (385 + (273 + (197 + (264 + (223 + (378 + (376 + (394 + (380 + (382 + (381 + (105 + 2))))))))))))))) ⟨boot_heap w.params, ⟨[]⟩, boot_drawn, boot_toks, os⟩ (topStub pw) = some (⟨h1 w.params, ⟨[]⟩, {}, 1213, os⟩ : Shared) := by
  have h := rest0 w os
  rw [← pbs] at h
  exact go_top (congrFun (pre w) os) (piece_block (congrFun (blk w) os) h)
noncomputable def K (P : Params) : Frag := [(2, o2 P), (3, o3 P), (15, o15 P), (17, o17 P), (18, o18 P), (20, o20 P), (21, o21 P), (22, o22 P), (23, o23 P), (24, o24 P), (25, o25 P), (27, o27 P), (28, o28 P), (30, o30 P), (31, o31 P), (32, o32 P), (34, o34 P), (35, o35 P), (37, o37 P), (38, o38 P), (39, o39 P), (41, o41 P), (42, o42 P), (44, o44 P), (45, o45 P), (46, o46 P), (48, o48 P), (49, o49 P), (51, o51 P), (52, o52 P), (53, o53 P), (55, o55 P), (56, o56 P), (58, o58 P), (59, o59 P), (60, o60 P), (62, o62 P), (63, o63 P), (65, o65 P), (66, o66 P), (67, o67 P), (69, o69 P), (70, o70 P), (72, o72 P), (73, o73 P), (74, o74 P), (76, o76 P), (77, o77 P), (79, o79 P), (80, o80 P), (81, o81 P), (83, o83 P), (84, o84 P), (86, o86 P), (87, o87 P), (88, o88 P), (90, o90 P), (91, o91 P), (93, o93 P), (94, o94 P), (95, o95 P), (97, o97 P), (98, o98 P), (100, o100 P), (101, o101 P), (102, o102 P), (104, o104 P), (105, o105 P), (107, o107 P), (108, o108 P), (109, o109 P), (111, o111 P), (112, o112 P), (114, o114 P), (115, o115 P), (116, o116 P), (118, o118 P), (119, o119 P), (121, o121 P), (122, o122 P), (123, o123 P), (125, o125 P), (126, o126 P), (128, o128 P), (129, o129 P), (130, o130 P), (132, o132 P), (133, o133 P), (135, o135 P), (136, o136 P), (137, o137 P), (139, o139 P), (140, o140 P), (142, o142 P), (143, o143 P), (144, o144 P), (146, o146 P), (147, o147 P), (149, o149 P), (150, o150 P), (151, o151 P), (153, o153 P), (154, o154 P), (156, o156 P), (157, o157 P), (158, o158 P), (160, o160 P), (161, o161 P), (163, o163 P), (164, o164 P), (165, o165 P), (168, o168 P), (169, o169 P), (170, o170 P), (171, o171 P), (173, o173 P), (174, o174 P), (176, o176 P), (177, o177 P), (178, o178 P), (180, o180 P), (181, o181 P), (183, o183 P), (184, o184 P), (185, o185 P), (187, o187 P), (188, o188 P), (190, o190 P), (191, o191 P), (192, o192 P), (194, o194 P), (195, o195 P), (197, o197 P), (198, o198 P), (199, o199 P), (201, o201 P), (202, o202 P), (204, o204 P), (205, o205 P), (206, o206 P), (208, o208 P), (209, o209 P), (211, o211 P), (212, o212 P), (213, o213 P), (215, o215 P), (216, o216 P), (218, o218 P), (219, o219 P), (220, o220 P), (222, o222 P), (223, o223 P), (225, o225 P), (226, o226 P), (227, o227 P), (229, o229 P), (230, o230 P), (232, o232 P), (233, o233 P), (234, o234 P), (241, o241 P), (242, o242 P), (243, o243 P), (244, o244 P), (247, o247 P), (254, o254 P), (256, o256 P), (257, o257 P), (259, o259 P), (260, o260 P), (261, o261 P), (262, o262 P), (263, o263 P), (273, o273 P), (275, o275 P), (276, o276 P), (278, o278 P), (279, o279 P), (280, o280 P), (281, o281 P), (282, o282 P), (283, o283 P), (284, o284 P), (294, o294 P), (295, o295 P), (297, o297 P), (298, o298 P), (300, o300 P), (301, o301 P), (302, o302 P), (304, o304 P), (305, o305 P), (307, o307 P), (308, o308 P), (309, o309 P), (310, o310 P), (311, o311 P), (312, o312 P), (313, o313 P), (316, o316 P), (318, o318 P), (319, o319 P), (321, o321 P), (322, o322 P), (323, o323 P), (325, o325 P), (326, o326 P), (328, o328 P), (329, o329 P), (330, o330 P), (332, o332 P), (333, o333 P), (335, o335 P), (336, o336 P), (337, o337 P), (339, o339 P), (340, o340 P), (342, o342 P), (343, o343 P), (344, o344 P), (346, o346 P), (347, o347 P), (349, o349 P), (350, o350 P), (351, o351 P), (353, o353 P), (354, o354 P), (356, o356 P), (357, o357 P), (358, o358 P), (360, o360 P), (361, o361 P), (363, o363 P), (364, o364 P), (365, o365 P), (367, o367 P), (368, o368 P), (370, o370 P), (371, o371 P), (372, o372 P), (374, o374 P), (375, o375 P), (377, o377 P), (378, o378 P), (379, o379 P), (382, o382 P), (383, o383 P), (384, o384 P), (387, o387 P), (388, o388 P), (389, o389 P), (391, o391 P), (392, o392 P), (394, o394 P), (395, o395 P), (396, o396 P), (399, o399 P), (400, o400 P), (401, o401 P), (403, o403 P), (404, o404 P), (406, o406 P), (407, o407 P), (408, o408 P), (410, o410 P), (411, o411 P), (413, o413 P), (414, o414 P), (415, o415 P), (417, o417 P), (418, o418 P), (420, o420 P), (421, o421 P), (422, o422 P), (424, o424 P), (425, o425 P), (427, o427 P), (428, o428 P), (429, o429 P), (431, o431 P), (432, o432 P), (434, o434 P), (435, o435 P), (436, o436 P), (438, o438 P), (439, o439 P), (441, o441 P), (442, o442 P), (443, o443 P), (445, o445 P), (446, o446 P), (448, o448 P), (449, o449 P), (450, o450 P), (452, o452 P), (453, o453 P), (455, o455 P), (456, o456 P), (457, o457 P), (459, o459 P), (460, o460 P), (462, o462 P), (463, o463 P), (464, o464 P), (466, o466 P), (467, o467 P), (469, o469 P), (470, o470 P), (471, o471 P), (473, o473 P), (474, o474 P), (476, o476 P), (477, o477 P), (478, o478 P), (480, o480 P), (481, o481 P), (483, o483 P), (484, o484 P), (485, o485 P), (487, o487 P), (488, o488 P), (490, o490 P), (491, o491 P), (492, o492 P), (494, o494 P), (495, o495 P), (497, o497 P), (498, o498 P), (499, o499 P), (501, o501 P), (502, o502 P), (504, o504 P), (505, o505 P), (506, o506 P), (509, o509 P), (510, o510 P), (511, o511 P), (513, o513 P), (514, o514 P), (516, o516 P), (517, o517 P), (518, o518 P), (521, o521 P), (522, o522 P), (523, o523 P), (525, o525 P), (526, o526 P), (528, o528 P), (529, o529 P), (530, o530 P), (532, o532 P), (533, o533 P), (535, o535 P), (536, o536 P), (537, o537 P), (539, o539 P), (540, o540 P), (542, o542 P), (543, o543 P), (544, o544 P), (546, o546 P), (547, o547 P), (549, o549 P), (550, o550 P), (551, o551 P), (553, o553 P), (554, o554 P), (556, o556 P), (557, o557 P), (558, o558 P), (560, o560 P), (561, o561 P), (563, o563 P), (564, o564 P), (565, o565 P), (567, o567 P), (568, o568 P), (570, o570 P), (571, o571 P), (572, o572 P), (575, o575 P), (576, o576 P), (577, o577 P), (580, o580 P), (581, o581 P), (582, o582 P), (584, o584 P), (585, o585 P), (587, o587 P), (588, o588 P), (589, o589 P), (590, o590 P), (592, o592 P), (593, o593 P), (595, o595 P), (596, o596 P), (597, o597 P), (599, o599 P), (600, o600 P), (602, o602 P), (603, o603 P), (604, o604 P), (607, o607 P), (608, o608 P), (609, o609 P), (611, o611 P), (612, o612 P), (614, o614 P), (615, o615 P), (616, o616 P), (618, o618 P), (619, o619 P), (621, o621 P), (622, o622 P), (623, o623 P), (626, o626 P), (627, o627 P), (628, o628 P), (630, o630 P), (631, o631 P), (633, o633 P), (634, o634 P), (635, o635 P), (637, o637 P), (638, o638 P), (640, o640 P), (641, o641 P), (642, o642 P), (644, o644 P), (645, o645 P), (647, o647 P), (648, o648 P), (649, o649 P), (651, o651 P), (652, o652 P), (654, o654 P), (655, o655 P), (656, o656 P), (659, o659 P), (660, o660 P), (661, o661 P), (664, o664 P), (665, o665 P), (666, o666 P), (669, o669 P), (670, o670 P), (671, o671 P), (673, o673 P), (674, o674 P), (676, o676 P), (677, o677 P), (678, o678 P), (680, o680 P), (681, o681 P), (683, o683 P), (684, o684 P), (685, o685 P), (688, o688 P), (689, o689 P), (690, o690 P), (692, o692 P), (693, o693 P), (695, o695 P), (696, o696 P), (697, o697 P), (699, o699 P), (700, o700 P), (702, o702 P), (703, o703 P), (704, o704 P), (706, o706 P), (707, o707 P), (709, o709 P), (710, o710 P), (711, o711 P), (713, o713 P), (714, o714 P), (716, o716 P), (717, o717 P), (718, o718 P), (720, o720 P), (721, o721 P), (723, o723 P), (724, o724 P), (725, o725 P), (728, o728 P), (729, o729 P), (730, o730 P), (731, o731 P), (734, o734 P), (735, o735 P), (736, o736 P), (738, o738 P), (739, o739 P), (741, o741 P), (742, o742 P), (743, o743 P), (746, o746 P), (747, o747 P), (748, o748 P), (751, o751 P), (752, o752 P), (753, o753 P), (756, o756 P), (757, o757 P), (758, o758 P), (761, o761 P), (762, o762 P)]
noncomputable abbrev as : List Addr := [2, 3, 15, 17, 18, 20, 21, 22, 23, 24, 25, 27, 28, 30, 31, 32, 34, 35, 37, 38, 39, 41, 42, 44, 45, 46, 48, 49, 51, 52, 53, 55, 56, 58, 59, 60, 62, 63, 65, 66, 67, 69, 70, 72, 73, 74, 76, 77, 79, 80, 81, 83, 84, 86, 87, 88, 90, 91, 93, 94, 95, 97, 98, 100, 101, 102, 104, 105, 107, 108, 109, 111, 112, 114, 115, 116, 118, 119, 121, 122, 123, 125, 126, 128, 129, 130, 132, 133, 135, 136, 137, 139, 140, 142, 143, 144, 146, 147, 149, 150, 151, 153, 154, 156, 157, 158, 160, 161, 163, 164, 165, 168, 169, 170, 171, 173, 174, 176, 177, 178, 180, 181, 183, 184, 185, 187, 188, 190, 191, 192, 194, 195, 197, 198, 199, 201, 202, 204, 205, 206, 208, 209, 211, 212, 213, 215, 216, 218, 219, 220, 222, 223, 225, 226, 227, 229, 230, 232, 233, 234, 241, 242, 243, 244, 247, 254, 256, 257, 259, 260, 261, 262, 263, 273, 275, 276, 278, 279, 280, 281, 282, 283, 284, 294, 295, 297, 298, 300, 301, 302, 304, 305, 307, 308, 309, 310, 311, 312, 313, 316, 318, 319, 321, 322, 323, 325, 326, 328, 329, 330, 332, 333, 335, 336, 337, 339, 340, 342, 343, 344, 346, 347, 349, 350, 351, 353, 354, 356, 357, 358, 360, 361, 363, 364, 365, 367, 368, 370, 371, 372, 374, 375, 377, 378, 379, 382, 383, 384, 387, 388, 389, 391, 392, 394, 395, 396, 399, 400, 401, 403, 404, 406, 407, 408, 410, 411, 413, 414, 415, 417, 418, 420, 421, 422, 424, 425, 427, 428, 429, 431, 432, 434, 435, 436, 438, 439, 441, 442, 443, 445, 446, 448, 449, 450, 452, 453, 455, 456, 457, 459, 460, 462, 463, 464, 466, 467, 469, 470, 471, 473, 474, 476, 477, 478, 480, 481, 483, 484, 485, 487, 488, 490, 491, 492, 494, 495, 497, 498, 499, 501, 502, 504, 505, 506, 509, 510, 511, 513, 514, 516, 517, 518, 521, 522, 523, 525, 526, 528, 529, 530, 532, 533, 535, 536, 537, 539, 540, 542, 543, 544, 546, 547, 549, 550, 551, 553, 554, 556, 557, 558, 560, 561, 563, 564, 565, 567, 568, 570, 571, 572, 575, 576, 577, 580, 581, 582, 584, 585, 587, 588, 589, 590, 592, 593, 595, 596, 597, 599, 600, 602, 603, 604, 607, 608, 609, 611, 612, 614, 615, 616, 618, 619, 621, 622, 623, 626, 627, 628, 630, 631, 633, 634, 635, 637, 638, 640, 641, 642, 644, 645, 647, 648, 649, 651, 652, 654, 655, 656, 659, 660, 661, 664, 665, 666, 669, 670, 671, 673, 674, 676, 677, 678, 680, 681, 683, 684, 685, 688, 689, 690, 692, 693, 695, 696, 697, 699, 700, 702, 703, 704, 706, 707, 709, 710, 711, 713, 714, 716, 717, 718, 720, 721, 723, 724, 725, 728, 729, 730, 731, 734, 735, 736, 738, 739, 741, 742, 743, 746, 747, 748, 751, 752, 753, 756, 757, 758, 761, 762]
end Mine.H
end
section
set_option maxRecDepth 100000
set_option maxHeartbeats 8000000
namespace Mine.H
open PySem PySem.W PySem.Calls PyProof.Rows
noncomputable def q : Program := view pw [0, 2, 3, 4, 5, 6, 7, 8, 9, 10, 11, 12, 13, 14, 16, 17, 18, 19, 20, 21, 22, 23, 24, 25, 26, 27, 29, 30, 31, 32, 33, 34, 35, 36, 38, 39, 41, 42, 43, 44, 45, 46, 47, 48, 49, 51, 52, 53, 54, 55, 56, 57, 58, 60, 61, 62, 63, 64, 65, 66, 67, 68, 69, 70, 71, 72, 73, 74, 75, 76, 77, 78, 80, 81, 82, 83, 84, 85, 86, 87, 88, 91, 92, 93, 94, 95, 96, 97, 98, 100, 101, 103, 104, 105, 106, 107, 108, 109, 110, 111, 112, 113, 116, 117, 118, 119, 120]
noncomputable abbrev loose : List Str := [Str.ofString "number_text", Str.ofString "order_by", Str.ofString "merge_frames"]
noncomputable abbrev fs (w : World) (os : OsState) : Shared := ⟨h1 w.params, ⟨[]⟩, {}, 1213, os⟩
noncomputable abbrev mods : List Str := importedModules pw.main.body
noncomputable abbrev row : OpenRow := PySem.Challenge.rw_ov0088_01.row
noncomputable abbrev Xt (s : Shared) : Bool := xlAt q [] s && recOk (RowW.records row.toRowW) s
noncomputable abbrev hook : Hook := kHook K as (fun _ => by kernel_rfl)
theorem l1 (w : World) : (fun os => (staticsOk mods (boot_heap w.params) (h1 w.params) && namesBound pw (h1 w.params) && gensDone (fs w os) && laidKept (boot_heap w.params) (h1 w.params))) = fun _ => true := by kernel_rfl
theorem l2 (w : World) : (fun os => seen ((recsOf q).map (·.name)) (ownsOf q) [] { fs w os with gens := #[] }) = fun _ => expectedOf q := by kernel_rfl
theorem l3 (w : World) : (fun os => (fs w os).heap.bltView) = fun _ => bltViewBooted := by kernel_rfl
theorem l4 (w : World) : (fun os => ((fs w os).heap.keysOk (looseW q loose) ((recsOf q).map (·.name)) ((litsOf q).map (·.1)) ((clssOf q (looseW q loose)).map (·.name)) && (fs w os).heap.accountedOkI mods && (fs w os).heap.isNs mainGlobals && (fs w os).heap.isNs builtinsNs && tablesOk q (fs w os).heap && Xt (fs w os) && (if true then (fs w os).gens.size == 0 else !leftWithCleanup (fs w os).gens))) = fun _ => true := by kernel_rfl
theorem l5 (w : World) : (fun os => tabsOk q (fs w os)) = fun _ => true := by kernel_rfl
theorem l6 (w : World) : (fun os => pinSeenD q (drecsOf q) (fs w os)) = fun _ => pinGoodD (drecsOf q) := by kernel_rfl
theorem l7 (w : World) : (fun os => plainSeenE q (looseW q loose) (fs w os)) = fun _ => plainGoodE q (looseW q loose) := by kernel_rfl
theorem l8 (w : World) : (fun os => plainSeenD q loose (fs w os)) = fun _ => plainGoodD q loose := by kernel_rfl
theorem l9 (w : World) : (fun os => wideSeen q (fs w os)) = fun _ => wideGood q := by kernel_rfl
theorem l10 (w : World) : (fun os => clsSeenW q loose (fs w os)) = fun _ => clsGoodW q loose := by kernel_rfl
theorem l11 (w : World) : (fun os => as.map (fs w os).heap.get?) = fun _ => (K w.params).map fun p => some p.2 := by kernel_rfl
theorem looks (w : World) : (fun os => ((staticsOk mods (boot_heap w.params) (h1 w.params) && namesBound pw (h1 w.params) && gensDone (fs w os) && laidKept (boot_heap w.params) (h1 w.params)), openSeen q loose mods Xt true (fs w os), hook.obs (fs w os))) = fun _ => (true, openGood q loose, hook.val w) := by
  funext os
  exact looks_pair (congrFun (l1 w) os) (looks_pair (looks_pair (congrFun (l2 w) os) (looks_pair (congrFun (l3 w) os) (looks_pair (congrFun (l4 w) os) (looks_pair (congrFun (l5 w) os) (looks_pair (congrFun (l6 w) os) (looks_pair (congrFun (l7 w) os) (looks_pair (congrFun (l8 w) os) (looks_pair (congrFun (l9 w) os) (congrFun (l10 w) os))))))))) (congrFun (l11 w) os))
theorem opn : opening pw = plainProg pw.main.scope.names := by kernel_rfl
theorem fence (s : Shared) : fenceModules? pw s = some s := by kernel_rfl
theorem size (w : World) : ((boot_heap w.params).isNs mainGlobals && (⟨[]⟩ : Array GenState).size == 0, (boot_heap w.params).objs.size, (boot_heap w.params).nsMap mainGlobals (Str.ofString "__annotations__")) = (true, 11, ann) := by kernel_rfl
theorem left : LeftO pw q loose Xt hook.obs hook.val 8368 := LeftO.of_pieces (H₀ := boot_heap) (H₁ := h1) (boot_open opn (by kernel_rfl) fence) size run (by kernel_rfl) looks
noncomputable def dl : DefRec := ((defOf q (Str.ofString "law")).get (by kernel_rfl)).1
end Mine.H
end
section
set_option maxRecDepth 100000
set_option maxHeartbeats 8000000
namespace Mine.H
open PySem PySem.W PySem.Calls PyProof.Rows
noncomputable abbrev law : OpenLaw := PySem.Challenge.rw_ov0088_01
noncomputable abbrev lr : OpenRow := law.row
noncomputable abbrev lp : Program := lr.prog
theorem a1 : (sreFenced lp.main && ((moduleNames lp.main.body).isEmpty || lookedIntoSs (moduleNames lp.main.body) lp.main.body)) = true := by kernel_rfl
theorem a2 : namesResolve lp = true := by kernel_rfl
theorem a3 : lp.boundNames.all (fun n => !worldNames.contains n) = true := by kernel_rfl
theorem a4 : noRoadLSs { strict := !(importedModules lp.main.body).all cThrough.contains, foot := none, bare := (["vars", "dir", "locals"] : List Str).filter (readsOut lp lp.main.body) } lp.main.body = true := by kernel_rfl
theorem a5 : namesMeet lp lp.main.body (fun _ n => attrL n) = true := by kernel_rfl
theorem looksO : looksOpen lp = true := look_both (look_both (look_both (look_both a1 a2) a3) a4) a5
theorem part : lr.partSaid = true := by
  show (looksOpen lp && lr.loose.isEmpty && lr.makers.isEmpty &&
    (lr.records.isEmpty || lr.raises.all fun ct => ct.1 != .builtin "AttributeError" && ct.1 != .builtin "TypeError") &&
    (lr.raises.all fun ct => match ct.1 with | .builtin n => !lr.prog.boundNames.contains (Str.ofString n) && !ofTheWorld.contains n | .own _ => true) &&
    decide (lr.records.map (·.1)).Nodup && (lr.records.all fun x => !x.1.opensWith "__" && !builtinNamed x.1 && lr.prog.boundNames.contains x.1 && x.2.all fun f => !f.1.opensWith "__") &&
    lr.toRowW.solid && lr.pre.litsOk && lr.post.litsOk && lr.raises.all (·.2.litsOk) &&
    lr.mutates.all (fun i => match lr.args[i]? with
      | some sh => !sh.arms.any WShape.isObj
      | none => false) &&
    lr.within.all (fun i => decide (i < lr.args.length)) && lr.same.all (fun i => decide (i < lr.args.length))) = true
  rw [looksO]
  kernel_rfl
theorem rowSaid : lr.wellSaid = true := look_both (look_both part (by kernel_rfl)) (by kernel_rfl)
theorem w1 : (decide (law.foot ≤ (behindTheImports law.prog).length) && law.footing.all footLine && noClassBlock law.prog law.footing && law.most.all (fun n => decide (63 ≤ n)) && law.bound.all (fun n => decide (2 ^ 63 ≤ n))) = true := by kernel_rfl
theorem w2 : noRoadLSs { strict := true, foot := some law.bound', writes := law.writes, may := law.may } law.footing = true := by kernel_rfl
theorem w3 : (defStands law.about law.above && law.namesIt) = true := by kernel_rfl
theorem w4 : ((["type", "isinstance", "issubclass", "getattr", "hasattr"] : List Str).all (fun n => law.about != [n]) && law.bound'.all (fun n => !builtinNamed n || law.about == [n] || !law.reads n)) = true := by kernel_rfl
theorem w5 : ((!law.writes || (law.prog.main.body.flatMap importedNames).all fun n => !law.reads n) && (law.prog.main.body.flatMap importedNames).all (fun n => !law.reads n || (drawsOf n law.prog.main.body).all fun mn => mn.2 != ("attrgetter" : Str) && mn.2 != ("methodcaller" : Str))) = true := by kernel_rfl
theorem w6 : namesMeet law.prog law.footing (fun sc n => (!(["type", "isinstance", "issubclass", "getattr", "hasattr"] : List Str).contains n || sc.names.lookup n == some .globalImplicit) &&
    (law.may != some n || sc.kind == .module || sc.names.lookup n == some .globalImplicit)) = true := by kernel_rfl
theorem w7 : (law.own.contains law.name && law.own.eraseDups.length == law.own.length && law.own.all (fun n => !builtinNamed n)) = true := by kernel_rfl
theorem w8 : namesMeet law.prog law.above (fun _ n => !law.own.contains n) = true := by kernel_rfl
theorem w9 : namesMeet law.prog law.footing (fun sc n => sc.kind == .module || sc.names.lookup n != some .globalExplicit) = true := by kernel_rfl
theorem and_l {a b : Bool} (h : (a && b) = true) : a = true := (Bool.and_eq_true_iff.mp h).1
theorem and_r {a b : Bool} (h : (a && b) = true) : b = true := (Bool.and_eq_true_iff.mp h).2
theorem said : law.wellSaid = true :=
  look_both (look_both (look_both (look_both (look_both (look_both (look_both (look_both (look_both (look_both (look_both (look_both (look_both (look_both (look_both (look_both (look_both (look_both rowSaid
    (and_l (and_l (and_l (and_l w1))))) (and_r (and_l (and_l (and_l w1))))) (and_r (and_l (and_l w1)))) (and_r (and_l w1))) (and_r w1)) w2) (and_l w3)) (and_r w3)) (and_l w4)) (and_r w4)) (and_l w5)) (and_r w5)) w6) (and_l (and_l w7))) (and_r (and_l w7))) (and_r w7)) w8) w9
end Mine.H
end
section
set_option genInjectivity false
open PySem PySem.W PySem.Calls PyProof.Rows PySem.Spec
set_option tactic.hygienic false
namespace Mine
theorem xa_0_3  {p0 p1 p2 : Prop} {C : Prop} (h : p0 ∧ p1 ∧ p2) (f : p0 → p1 → p2 → C) : C := by obtain ⟨h0, h1, h2⟩ := h; exact f h0 h1 h2
theorem xa_0_4  {p0 p1 p2 p3 : Prop} {C : Prop} (h : p0 ∧ p1 ∧ p2 ∧ p3) (f : p0 → p1 → p2 → p3 → C) : C := by obtain ⟨h0, h1, h2, h3⟩ := h; exact f h0 h1 h2 h3
theorem xa_1_2 {α0 : Sort _} {p0 p1 : α0 → Prop} {C : Prop} (h : ∃ a0, p0 a0 ∧ p1 a0) (f : ∀ a0, p0 a0 → p1 a0 → C) : C := by obtain ⟨a0, h0, h1⟩ := h; exact f a0 h0 h1
theorem xa_1_3 {α0 : Sort _} {p0 p1 p2 : α0 → Prop} {C : Prop} (h : ∃ a0, p0 a0 ∧ p1 a0 ∧ p2 a0) (f : ∀ a0, p0 a0 → p1 a0 → p2 a0 → C) : C := by obtain ⟨a0, h0, h1, h2⟩ := h; exact f a0 h0 h1 h2
theorem xa_1_4 {α0 : Sort _} {p0 p1 p2 p3 : α0 → Prop} {C : Prop} (h : ∃ a0, p0 a0 ∧ p1 a0 ∧ p2 a0 ∧ p3 a0) (f : ∀ a0, p0 a0 → p1 a0 → p2 a0 → p3 a0 → C) : C := by obtain ⟨a0, h0, h1, h2, h3⟩ := h; exact f a0 h0 h1 h2 h3
theorem xa_1_5 {α0 : Sort _} {p0 p1 p2 p3 p4 : α0 → Prop} {C : Prop} (h : ∃ a0, p0 a0 ∧ p1 a0 ∧ p2 a0 ∧ p3 a0 ∧ p4 a0) (f : ∀ a0, p0 a0 → p1 a0 → p2 a0 → p3 a0 → p4 a0 → C) : C := by obtain ⟨a0, h0, h1, h2, h3, h4⟩ := h; exact f a0 h0 h1 h2 h3 h4
theorem xa_2_1 {α0 : Sort _} {α1 : Sort _} {p0 : α0 → α1 → Prop} {C : Prop} (h : ∃ a0 a1, p0 a0 a1) (f : ∀ a0 a1, p0 a0 a1 → C) : C := by obtain ⟨a0, a1, h0⟩ := h; exact f a0 a1 h0
theorem xa_2_2 {α0 : Sort _} {α1 : Sort _} {p0 p1 : α0 → α1 → Prop} {C : Prop} (h : ∃ a0 a1, p0 a0 a1 ∧ p1 a0 a1) (f : ∀ a0 a1, p0 a0 a1 → p1 a0 a1 → C) : C := by obtain ⟨a0, a1, h0, h1⟩ := h; exact f a0 a1 h0 h1
theorem xa_2_3 {α0 : Sort _} {α1 : Sort _} {p0 p1 p2 : α0 → α1 → Prop} {C : Prop} (h : ∃ a0 a1, p0 a0 a1 ∧ p1 a0 a1 ∧ p2 a0 a1) (f : ∀ a0 a1, p0 a0 a1 → p1 a0 a1 → p2 a0 a1 → C) : C := by obtain ⟨a0, a1, h0, h1, h2⟩ := h; exact f a0 a1 h0 h1 h2
theorem xa_2_5 {α0 : Sort _} {α1 : Sort _} {p0 p1 p2 p3 p4 : α0 → α1 → Prop} {C : Prop} (h : ∃ a0 a1, p0 a0 a1 ∧ p1 a0 a1 ∧ p2 a0 a1 ∧ p3 a0 a1 ∧ p4 a0 a1) (f : ∀ a0 a1, p0 a0 a1 → p1 a0 a1 → p2 a0 a1 → p3 a0 a1 → p4 a0 a1 → C) : C := by obtain ⟨a0, a1, h0, h1, h2, h3, h4⟩ := h; exact f a0 a1 h0 h1 h2 h3 h4
theorem xa_2_6 {α0 : Sort _} {α1 : Sort _} {p0 p1 p2 p3 p4 p5 : α0 → α1 → Prop} {C : Prop} (h : ∃ a0 a1, p0 a0 a1 ∧ p1 a0 a1 ∧ p2 a0 a1 ∧ p3 a0 a1 ∧ p4 a0 a1 ∧ p5 a0 a1) (f : ∀ a0 a1, p0 a0 a1 → p1 a0 a1 → p2 a0 a1 → p3 a0 a1 → p4 a0 a1 → p5 a0 a1 → C) : C := by obtain ⟨a0, a1, h0, h1, h2, h3, h4, h5⟩ := h; exact f a0 a1 h0 h1 h2 h3 h4 h5
theorem xa_3_1 {α0 : Sort _} {α1 : Sort _} {α2 : Sort _} {p0 : α0 → α1 → α2 → Prop} {C : Prop} (h : ∃ a0 a1 a2, p0 a0 a1 a2) (f : ∀ a0 a1 a2, p0 a0 a1 a2 → C) : C := by obtain ⟨a0, a1, a2, h0⟩ := h; exact f a0 a1 a2 h0
theorem xa_3_3 {α0 : Sort _} {α1 : Sort _} {α2 : Sort _} {p0 p1 p2 : α0 → α1 → α2 → Prop} {C : Prop} (h : ∃ a0 a1 a2, p0 a0 a1 a2 ∧ p1 a0 a1 a2 ∧ p2 a0 a1 a2) (f : ∀ a0 a1 a2, p0 a0 a1 a2 → p1 a0 a1 a2 → p2 a0 a1 a2 → C) : C := by obtain ⟨a0, a1, a2, h0, h1, h2⟩ := h; exact f a0 a1 a2 h0 h1 h2
theorem xa_3_4 {α0 : Sort _} {α1 : Sort _} {α2 : Sort _} {p0 p1 p2 p3 : α0 → α1 → α2 → Prop} {C : Prop} (h : ∃ a0 a1 a2, p0 a0 a1 a2 ∧ p1 a0 a1 a2 ∧ p2 a0 a1 a2 ∧ p3 a0 a1 a2) (f : ∀ a0 a1 a2, p0 a0 a1 a2 → p1 a0 a1 a2 → p2 a0 a1 a2 → p3 a0 a1 a2 → C) : C := by obtain ⟨a0, a1, a2, h0, h1, h2, h3⟩ := h; exact f a0 a1 a2 h0 h1 h2 h3
theorem xa_3_6 {α0 : Sort _} {α1 : Sort _} {α2 : Sort _} {p0 p1 p2 p3 p4 p5 : α0 → α1 → α2 → Prop} {C : Prop} (h : ∃ a0 a1 a2, p0 a0 a1 a2 ∧ p1 a0 a1 a2 ∧ p2 a0 a1 a2 ∧ p3 a0 a1 a2 ∧ p4 a0 a1 a2 ∧ p5 a0 a1 a2) (f : ∀ a0 a1 a2, p0 a0 a1 a2 → p1 a0 a1 a2 → p2 a0 a1 a2 → p3 a0 a1 a2 → p4 a0 a1 a2 → p5 a0 a1 a2 → C) : C := by obtain ⟨a0, a1, a2, h0, h1, h2, h3, h4, h5⟩ := h; exact f a0 a1 a2 h0 h1 h2 h3 h4 h5
theorem xa_3_7 {α0 : Sort _} {α1 : Sort _} {α2 : Sort _} {p0 p1 p2 p3 p4 p5 p6 : α0 → α1 → α2 → Prop} {C : Prop} (h : ∃ a0 a1 a2, p0 a0 a1 a2 ∧ p1 a0 a1 a2 ∧ p2 a0 a1 a2 ∧ p3 a0 a1 a2 ∧ p4 a0 a1 a2 ∧ p5 a0 a1 a2 ∧ p6 a0 a1 a2) (f : ∀ a0 a1 a2, p0 a0 a1 a2 → p1 a0 a1 a2 → p2 a0 a1 a2 → p3 a0 a1 a2 → p4 a0 a1 a2 → p5 a0 a1 a2 → p6 a0 a1 a2 → C) : C := by obtain ⟨a0, a1, a2, h0, h1, h2, h3, h4, h5, h6⟩ := h; exact f a0 a1 a2 h0 h1 h2 h3 h4 h5 h6
theorem xa_4_1 {α0 : Sort _} {α1 : Sort _} {α2 : Sort _} {α3 : Sort _} {p0 : α0 → α1 → α2 → α3 → Prop} {C : Prop} (h : ∃ a0 a1 a2 a3, p0 a0 a1 a2 a3) (f : ∀ a0 a1 a2 a3, p0 a0 a1 a2 a3 → C) : C := by obtain ⟨a0, a1, a2, a3, h0⟩ := h; exact f a0 a1 a2 a3 h0
theorem xa_4_2 {α0 : Sort _} {α1 : Sort _} {α2 : Sort _} {α3 : Sort _} {p0 p1 : α0 → α1 → α2 → α3 → Prop} {C : Prop} (h : ∃ a0 a1 a2 a3, p0 a0 a1 a2 a3 ∧ p1 a0 a1 a2 a3) (f : ∀ a0 a1 a2 a3, p0 a0 a1 a2 a3 → p1 a0 a1 a2 a3 → C) : C := by obtain ⟨a0, a1, a2, a3, h0, h1⟩ := h; exact f a0 a1 a2 a3 h0 h1
theorem xa_4_3 {α0 : Sort _} {α1 : Sort _} {α2 : Sort _} {α3 : Sort _} {p0 p1 p2 : α0 → α1 → α2 → α3 → Prop} {C : Prop} (h : ∃ a0 a1 a2 a3, p0 a0 a1 a2 a3 ∧ p1 a0 a1 a2 a3 ∧ p2 a0 a1 a2 a3) (f : ∀ a0 a1 a2 a3, p0 a0 a1 a2 a3 → p1 a0 a1 a2 a3 → p2 a0 a1 a2 a3 → C) : C := by obtain ⟨a0, a1, a2, a3, h0, h1, h2⟩ := h; exact f a0 a1 a2 a3 h0 h1 h2
theorem xa_4_4 {α0 : Sort _} {α1 : Sort _} {α2 : Sort _} {α3 : Sort _} {p0 p1 p2 p3 : α0 → α1 → α2 → α3 → Prop} {C : Prop} (h : ∃ a0 a1 a2 a3, p0 a0 a1 a2 a3 ∧ p1 a0 a1 a2 a3 ∧ p2 a0 a1 a2 a3 ∧ p3 a0 a1 a2 a3) (f : ∀ a0 a1 a2 a3, p0 a0 a1 a2 a3 → p1 a0 a1 a2 a3 → p2 a0 a1 a2 a3 → p3 a0 a1 a2 a3 → C) : C := by obtain ⟨a0, a1, a2, a3, h0, h1, h2, h3⟩ := h; exact f a0 a1 a2 a3 h0 h1 h2 h3
theorem xa_5_2 {α0 : Sort _} {α1 : Sort _} {α2 : Sort _} {α3 : Sort _} {α4 : Sort _} {p0 p1 : α0 → α1 → α2 → α3 → α4 → Prop} {C : Prop} (h : ∃ a0 a1 a2 a3 a4, p0 a0 a1 a2 a3 a4 ∧ p1 a0 a1 a2 a3 a4) (f : ∀ a0 a1 a2 a3 a4, p0 a0 a1 a2 a3 a4 → p1 a0 a1 a2 a3 a4 → C) : C := by obtain ⟨a0, a1, a2, a3, a4, h0, h1⟩ := h; exact f a0 a1 a2 a3 a4 h0 h1
theorem xa_5_4 {α0 : Sort _} {α1 : Sort _} {α2 : Sort _} {α3 : Sort _} {α4 : Sort _} {p0 p1 p2 p3 : α0 → α1 → α2 → α3 → α4 → Prop} {C : Prop} (h : ∃ a0 a1 a2 a3 a4, p0 a0 a1 a2 a3 a4 ∧ p1 a0 a1 a2 a3 a4 ∧ p2 a0 a1 a2 a3 a4 ∧ p3 a0 a1 a2 a3 a4) (f : ∀ a0 a1 a2 a3 a4, p0 a0 a1 a2 a3 a4 → p1 a0 a1 a2 a3 a4 → p2 a0 a1 a2 a3 a4 → p3 a0 a1 a2 a3 a4 → C) : C := by obtain ⟨a0, a1, a2, a3, a4, h0, h1, h2, h3⟩ := h; exact f a0 a1 a2 a3 a4 h0 h1 h2 h3
theorem xa_6_1 {α0 : Sort _} {α1 : Sort _} {α2 : Sort _} {α3 : Sort _} {α4 : Sort _} {α5 : Sort _} {p0 : α0 → α1 → α2 → α3 → α4 → α5 → Prop} {C : Prop} (h : ∃ a0 a1 a2 a3 a4 a5, p0 a0 a1 a2 a3 a4 a5) (f : ∀ a0 a1 a2 a3 a4 a5, p0 a0 a1 a2 a3 a4 a5 → C) : C := by obtain ⟨a0, a1, a2, a3, a4, a5, h0⟩ := h; exact f a0 a1 a2 a3 a4 a5 h0
theorem ya_3 {p0 p1 p2 C : Prop} (h : (p0 ∧ p1) ∧ p2) (f : p0 → p1 → p2 → C) : C := by obtain ⟨⟨h0, h1⟩, h2⟩ := h; exact f h0 h1 h2
theorem ya_4 {p0 p1 p2 p3 C : Prop} (h : ((p0 ∧ p1) ∧ p2) ∧ p3) (f : p0 → p1 → p2 → p3 → C) : C := by obtain ⟨⟨⟨h0, h1⟩, h2⟩, h3⟩ := h; exact f h0 h1 h2 h3
theorem ya_5 {p0 p1 p2 p3 p4 C : Prop} (h : (((p0 ∧ p1) ∧ p2) ∧ p3) ∧ p4) (f : p0 → p1 → p2 → p3 → p4 → C) : C := by obtain ⟨⟨⟨⟨h0, h1⟩, h2⟩, h3⟩, h4⟩ := h; exact f h0 h1 h2 h3 h4
theorem ya_7 {p0 p1 p2 p3 p4 p5 p6 C : Prop} (h : (((((p0 ∧ p1) ∧ p2) ∧ p3) ∧ p4) ∧ p5) ∧ p6) (f : p0 → p1 → p2 → p3 → p4 → p5 → p6 → C) : C := by obtain ⟨⟨⟨⟨⟨⟨h0, h1⟩, h2⟩, h3⟩, h4⟩, h5⟩, h6⟩ := h; exact f h0 h1 h2 h3 h4 h5 h6
theorem ya_9 {p0 p1 p2 p3 p4 p5 p6 p7 p8 C : Prop} (h : (((((((p0 ∧ p1) ∧ p2) ∧ p3) ∧ p4) ∧ p5) ∧ p6) ∧ p7) ∧ p8) (f : p0 → p1 → p2 → p3 → p4 → p5 → p6 → p7 → p8 → C) : C := by obtain ⟨⟨⟨⟨⟨⟨⟨⟨h0, h1⟩, h2⟩, h3⟩, h4⟩, h5⟩, h6⟩, h7⟩, h8⟩ := h; exact f h0 h1 h2 h3 h4 h5 h6 h7 h8
theorem none_el {α : Type _} {b : α} {C : Prop} (e : Option.none = Option.some b) : C := nomatch e
theorem ff_el {C : Prop} (e : Bool.false = Bool.true) : C := nomatch e
theorem some_el {α : Type _} {a b : α} {C : Prop} (e : Option.some a = Option.some b) (h : a = b → C) : C := h (Option.some.inj e)
inductive T where
  | none
  | bool (b : Bool)
  | int (i : Int)
  | str (s : Str)
  | tup (l : List T)
  | list (l : List T)
  | dict (ks : List Str) (l : List T)
  | vec (k i a : T)
  | rng (a b c : Int)
noncomputable def T.ctorIdx (t : T) : Nat := @T.casesOn (fun _ => Nat) t 0 (fun _ => 1) (fun _ => 2) (fun _ => 3) (fun _ => 4) (fun _ => 5) (fun _ _ => 6) (fun _ _ _ => 7) fun _ _ _ => 8
noncomputable abbrev tupO (vs : List Value) (n : Nat) : Obj := { cls := .type "tuple", data := .seq vs.toArray n }
noncomputable abbrev lstO (vs : List Value) (n : Nat) : Obj := { cls := .type "list", data := .seq vs.toArray n }
inductive Cell where
  | frz (o : Obj)
  | vec (k i a : Value)
  | own (F : Addr) (i : Nat) (o : Obj)
  | cl (F : Addr) (i : Nat) (v : Option Value)
  | ns (F : Addr) (m : Str → Option Value)
noncomputable def Cell.ctorIdx (t : Cell) : Nat := @Cell.casesOn (fun _ => Nat) t (fun _ => 0) (fun _ _ _ => 1) (fun _ _ _ => 2) (fun _ _ _ => 3) fun _ _ => 4
noncomputable def VecDict (k i a : Value) (o : Obj) : Prop :=
  ∃ es n, o = dictOf es n ∧ getL "kind" es = some (some k) ∧ getL "items" es = some (some i) ∧ getL "attrs" es = some (some a) ∧ (∃ b, getL "shared" es = some (some (.bool b))) ∧ es.length = 5
noncomputable def Cell.ok : Cell → Obj → Prop
  | .frz o, o' => o' = o
  | .vec k i a, o' => VecDict k i a o'
  | .own _ _ o, o' => o' = o
  | .cl _ _ v, o' => o'.data = .cell v
  | .ns _ m, o' => ∃ es ep, o'.data = .dict es ep ∧ StrKeys es ∧ ∀ n, nsFind es n = m n
noncomputable def Cell.tag : Cell → Option Addr
  | .frz _ => none
  | .vec .. => none
  | .own F _ _ => some F
  | .cl F _ _ => some F
  | .ns F _ => some F
noncomputable abbrev View := Addr → Option Cell
noncomputable def View.set (V : View) (a : Addr) (c : Cell) : View := fun b => if b = a then some c else V b
theorem View.set_self (V : View) (a : Addr) (c : Cell) : V.set a c a = some c := if_pos rfl
theorem View.set_ne (V : View) {a b : Addr} (c : Cell) (h : b ≠ a) : V.set a c b = V b := if_neg h
noncomputable def VLe (V V' : View) : Prop := ∀ a c, V a = some c → V' a = some c
theorem VLe.refl (V : View) : VLe V V := fun _ _ h => h
theorem VLe.trans {V V' V'' : View} (h : VLe V V') (h' : VLe V' V'') : VLe V V'' := fun a c e => h' a c (h a c e)
theorem VLe.set {V : View} {a : Addr} {c : Cell} (h : V a = none) : VLe V (V.set a c) := fun b c' e => by
  rw [View.set_ne]; exact e
  rintro rfl; rw [h] at e; cases e
noncomputable def On (V : View) (h : Heap) : Prop := ∀ a c, V a = some c → ∃ o, h.get? a = some o ∧ c.ok o
theorem On.lt {V : View} {h : Heap} (H : On V h) {a : Addr} {c : Cell} (e : V a = some c) : a < h.objs.size := by
  obtain ⟨o, ho, _⟩ := H a c e; exact Heap.lt_size ho
theorem On.fresh {V : View} {h : Heap} (H : On V h) {a : Addr} (ha : h.objs.size ≤ a) : V a = none := by
  cases e : V a with
  | none => rfl
  | some c => exact absurd (H.lt e) (Nat.not_lt.mpr ha)
theorem On.frz {V : View} {h : Heap} (H : On V h) {a : Addr} {o : Obj} (e : V a = some (.frz o)) : h.get? a = some o := by
  obtain ⟨o', ho, rfl⟩ := H a _ e; exact ho
theorem On.own {V : View} {h : Heap} (H : On V h) {a F : Addr} {i : Nat} {o : Obj} (e : V a = some (.own F i o)) : h.get? a = some o := by
  obtain ⟨o', ho, rfl⟩ := H a _ e; exact ho
theorem On.ns {V : View} {h : Heap} (H : On V h) {a F : Addr} {m : Str → Option Value} (e : V a = some (.ns F m)) : h.Ns a m := by
  obtain ⟨o', ho, es, ep, h1, h2, h3⟩ := H a _ e; exact ⟨o', es, ep, ho, h1, h2, h3⟩
theorem On.cl {V : View} {h : Heap} (H : On V h) {a F : Addr} {i : Nat} {v : Option Value} (e : V a = some (.cl F i v)) : h.IsCell a v := by
  obtain ⟨o', ho, h1⟩ := H a _ e; exact ⟨o', ho, h1⟩
theorem On.mono {V : View} {h h' : Heap} (H : On V h) (k : ∀ b o, h.get? b = some o → h'.get? b = some o) : On V h' := fun a c e => by
  obtain ⟨o, ho, hc⟩ := H a c e; exact ⟨o, k a o ho, hc⟩
theorem On.sub {V V' : View} {h : Heap} (H : On V' h) (l : VLe V V') : On V h := fun a c e => H a c (l a c e)
theorem On.push {V : View} {h : Heap} (H : On V h) {c : Cell} {o : Obj} (hc : c.ok o) (hf : o.isFreed = false) : On (V.set h.objs.size c) (h.push o) := by
  intro a c' e
  by_cases ha : a = h.objs.size
  · subst ha; rw [View.set_self] at e; cases e; exact ⟨o, Heap.get?_push_size _ hf, hc⟩
  · rw [View.set_ne _ _ ha] at e; obtain ⟨o', ho, hc'⟩ := H a c' e; exact ⟨o', Heap.get?_push_of_some _ ho, hc'⟩
theorem On.add {V : View} {h : Heap} (H : On V h) {c : Cell} {o : Obj} {a : Addr} (hg : h.get? a = some o) (hc : c.ok o) : On (V.set a c) h := by
  intro b c' e
  by_cases hb : b = a
  · subst hb; rw [View.set_self] at e; cases e; exact ⟨o, hg, hc⟩
  · rw [View.set_ne _ _ hb] at e; exact H b c' e
theorem On.upd {V : View} {h h' : Heap} (H : On V h) {c : Cell} {o : Obj} {a : Addr} (hs : Heap.ExtBut a h h') (hg : h'.get? a = some o) (hc : c.ok o) : On (V.set a c) h' := by
  intro b c' e
  by_cases hb : b = a
  · subst hb; rw [View.set_self] at e; cases e; exact ⟨o, hg, hc⟩
  · rw [View.set_ne _ _ hb] at e; obtain ⟨o', ho, hc'⟩ := H b c' e; exact ⟨o', hs b o' hb ho, hc'⟩
structure Cfg where
  prog : Program
  w : World
  K : Frag
  g : Heap
  mg : Str → Option Value
  mb : Str → Option Value
  VC : Addr
  ini : Addr
  hK : K.In g
  hg : g.Ns mainGlobals mg
  hb : g.Ns builtinsNs mb
  lim : g.NoLimit
  nodig : ∃ mc, g.Ns cStatics mc ∧ mc "sys.int_max_str_digits" = none
  bi : ∀ x : Str, x ≠ "__name__" → mb x = bootBuiltins x
noncomputable abbrev Cfg.M (c : Cfg) : Model := model c.prog c.w
structure Vw (c : Cfg) (V : View) (h : Heap) : Prop where
  on : On V h
  st : ∀ a o, c.g.get? a = some o → V a = some (.frz o)
  nsx : ∃ L F m, V L = some (.ns F m)
section
variable {c : Cfg} {V V' : View} {h h' : Heap}
theorem Vw.keep (H : Vw c V h) (b : Addr) (o : Obj) (e : c.g.get? b = some o) : h.get? b = some o := H.on.frz (H.st b o e)
theorem Vw.K (H : Vw c V h) : c.K.In h := c.hK.keeps H.keep
theorem Vw.mg (H : Vw c V h) : h.Ns mainGlobals c.mg := c.hg.keeps H.keep
theorem Vw.mb (H : Vw c V h) : h.Ns builtinsNs c.mb := c.hb.keeps H.keep
theorem Vw.lim (H : Vw c V h) : h.NoLimit := c.lim.keeps H.keep
theorem Vw.mono (H : Vw c V h) (k : ∀ b o, h.get? b = some o → h'.get? b = some o) : Vw c V h' := ⟨H.on.mono k, H.st, H.nsx⟩
theorem Vw.push (H : Vw c V h) {cl : Cell} {o : Obj} (hc : cl.ok o) (hf : o.isFreed = false) : Vw c (V.set h.objs.size cl) (h.push o) :=
  ⟨H.on.push hc hf, fun a o' e => VLe.set (H.on.fresh (Nat.le_refl _)) _ _ (H.st a o' e), by
    refine Classical.byContradiction fun hCC => ?_
    obtain ⟨L, F, m, e⟩ := H.nsx
    refine hCC ?_
    clear hCC
    exact ⟨L, F, m, VLe.set (H.on.fresh (Nat.le_refl _)) _ _ e⟩⟩
theorem Vw.add (H : Vw c V h) {cl : Cell} {o : Obj} {a : Addr} (hv : V a = none) (hg : h.get? a = some o) (hc : cl.ok o) : Vw c (V.set a cl) h :=
  ⟨H.on.add hg hc, fun b o' e => VLe.set hv b _ (H.st b o' e), by
    refine Classical.byContradiction fun hCC => ?_
    obtain ⟨L, F, m, e⟩ := H.nsx
    refine hCC ?_
    clear hCC
    exact ⟨L, F, m, VLe.set hv _ _ e⟩⟩
theorem Vw.upd (H : Vw c V h) {cl cl₀ : Cell} {o : Obj} {a : Addr} {F : Addr} (hv : V a = some cl₀) (ht : cl₀.tag = some F) (hs : Heap.ExtBut a h h') (hg : h'.get? a = some o) (hc : cl.ok o)
    (hn : (∀ F m, cl₀ ≠ .ns F m) ∨ ∃ F m, cl = .ns F m) : Vw c (V.set a cl) h' :=
  ⟨H.on.upd hs hg hc, fun b o' e => by
    have := H.st b o' e
    rw [View.set_ne]; exact this
    (rintro rfl; rw [hv] at this; cases this; cases ht), by
    refine Classical.byContradiction fun hCC => ?_
    obtain ⟨L, F', m, e⟩ := H.nsx
    refine hCC ?_
    clear hCC
    by_cases hL : L = a
    · subst hL
      rcases hn with hn | ⟨F₁, m₁, rfl⟩
      · rw [hv] at e; cases e; exact absurd rfl (hn _ _)
      · exact ⟨L, F₁, m₁, View.set_self ..⟩
    · exact ⟨L, F', m, by rw [View.set_ne _ _ hL]; exact e⟩⟩
theorem Vw.retag (H : Vw c V h) {cl cl₀ : Cell} {a : Addr} {F : Addr} (hv : V a = some cl₀) (ht : cl₀.tag = some F) (hc : ∀ o, cl₀.ok o → cl.ok o)
    (hn : (∀ F m, cl₀ ≠ .ns F m) ∨ ∃ F m, cl = .ns F m) : Vw c (V.set a cl) h := by
  obtain ⟨o, ho, hok⟩ := H.on a cl₀ hv
  exact H.upd hv ht (Heap.ExtBut.refl a h) ho (hc o hok) hn
noncomputable def cutAt (h : Heap) (L : Addr) : Heap := { h with objs := (h.objs.toList.take L).toArray }
theorem cutAt_get {h : Heap} {L a : Addr} : (cutAt h L).get? a = if a < L then h.get? a else none := by
  unfold cutAt Heap.get?
  simp only [List.getElem?_toArray, List.getElem?_take, Array.getElem?_toList]
  by_cases ha : a < L
  · simp only [ha, if_true]
  · simp only [ha, if_false]
noncomputable def newsAt (h : Heap) (L : Addr) : List (Addr × Obj) := (List.range h.objs.size).filterMap fun a => if L < a then (h.get? a).map fun o => (a, o) else none
theorem mem_newsAt {h : Heap} {L : Addr} {p : Addr × Obj} : p ∈ newsAt h L ↔ L < p.1 ∧ h.get? p.1 = some p.2 := by
  unfold newsAt
  rw [List.mem_filterMap]
  constructor
  · rintro ⟨a, _, e⟩
    by_cases ha : L < a
    · rw [if_pos ha] at e
      obtain ⟨o, ho, rfl⟩ := Option.map_eq_some_iff.mp e
      exact ⟨ha, ho⟩
    · rw [if_neg ha] at e; cases e
  · rintro ⟨h1, h2⟩
    exact ⟨p.1, List.mem_range.mpr (Heap.lt_size h2), by rw [if_pos h1, h2]; rfl⟩
structure Bridge (c : Cfg) (V : View) (h h₀ : Heap) (L : Addr) (m : Str → Option Value) (news : List (Addr × Obj)) : Prop where
  fr : Fr h₀ L h m
  nw : News h₀ L h news
  back : ∀ h', Fr h₀ L h' m → News h₀ L h' news → Vw c V h'
  fresh : ∀ a, (∀ q ∈ news, q.1 < a) → h₀.get? a = none → a ≠ L → V a = none
theorem Vw.bridge (H : Vw c V h) : ∃ h₀ L m news, Bridge c V h h₀ L m news := by
  refine Classical.byContradiction fun hCC => ?_
  obtain ⟨L, F, m, e⟩ := H.nsx
  refine hCC ?_
  clear hCC
  refine ⟨cutAt h L, L, m, newsAt h L, ⟨H.on.ns e, fun b o q => ?_, ?_⟩, fun p hp => ?_, fun h' F' N' => ⟨fun a cl q => ?_, H.st, H.nsx⟩, fun a h1 h2 h3 => ?_⟩
  · rw [cutAt_get] at q; split at q
    · exact q
    · cases q
  · show ((h.objs.toList.take L).toArray).size ≤ L
    rw [List.size_toArray, List.length_take]; exact Nat.min_le_left _ _
  · obtain ⟨h1, h2⟩ := mem_newsAt.mp hp
    refine ⟨h2, Nat.ne_of_gt h1, ?_⟩
    rw [cutAt_get, if_neg (Nat.not_lt.mpr (Nat.le_of_lt h1))]
  · obtain ⟨o, ho, hc⟩ := H.on a cl q
    rcases Nat.lt_trichotomy a L with hl | hl | hl
    · exact ⟨o, F'.keep a o (by rw [cutAt_get, if_pos hl]; exact ho), hc⟩
    · subst hl
      rw [e] at q; cases q
      refine Classical.byContradiction fun hCC => ?_
      obtain ⟨o', es, ep, q1, q2, q3, q4⟩ := F'.ns
      refine hCC ?_
      clear hCC
      exact ⟨o', q1, es, ep, q2, q3, q4⟩
    · exact ⟨o, (N' (a, o) (mem_newsAt.mpr ⟨hl, ho⟩)).1, hc⟩
  · cases q : V a with
    | none => rfl
    | some cl =>
      exfalso
      obtain ⟨o, ho, _⟩ := H.on a cl q
      rcases Nat.lt_trichotomy a L with hl | hl | hl
      · rw [cutAt_get, if_pos hl, ho] at h2; cases h2
      · exact h3 hl
      · exact absurd (h1 (a, o) (mem_newsAt.mpr ⟨hl, ho⟩)) (Nat.lt_irrefl _)
theorem Bridge.one {h₀ : Heap} {L : Addr} {m : Str → Option Value} {news : List (Addr × Obj)} (B : Bridge c V h h₀ L m news) {p : Addr × Obj} (F' : Fr h₀ L h' m) (N' : News h₀ L h' (p :: news)) (hp : ∀ q ∈ news, q.1 < p.1) :
    Vw c V h' ∧ h'.get? p.1 = some p.2 ∧ V p.1 = none :=
  ⟨B.back h' F' fun q hq => N' q (.tail _ hq), (N' p (.head _)).1, B.fresh p.1 hp (N' p (.head _)).2.2 (N' p (.head _)).2.1⟩
end
noncomputable def VLeS (F : Addr) (V V' : View) : Prop := ∀ a c, V a = some c → c.tag ≠ some F → V' a = some c
theorem VLeS.refl (F : Addr) (V : View) : VLeS F V V := fun _ _ h _ => h
theorem VLeS.trans {F : Addr} {V V' V'' : View} (h : VLeS F V V') (h' : VLeS F V' V'') : VLeS F V V'' := fun a c e t => h' a c (h a c e t) t
theorem VLe.toS {F : Addr} {V V' : View} (h : VLe V V') : VLeS F V V' := fun a c e _ => h a c e
theorem VLeS.set {F : Addr} {V : View} {a : Addr} {cl cl₀ : Cell} (hv : V a = some cl₀) (ht : cl₀.tag = some F) : VLeS F V (V.set a cl) := fun b c' e t => by
  rw [View.set_ne]; exact e
  rintro rfl; rw [hv] at e; cases e; exact t ht
theorem VLeS.setN {F : Addr} {V : View} {a : Addr} {cl : Cell} (hv : V a = none) : VLeS F V (V.set a cl) := (VLe.set hv).toS
noncomputable def KeysAre (w : World) : List DictEntry → List Str → Prop
  | [], ks => ks = []
  | e :: es, ks => ∃ k ks', ks = k :: ks' ∧ (∃ t, e.key = .str k t) ∧ e.hash = PyData.keyHash w.params k ∧ KeysAre w es ks'
mutual
noncomputable def Is (c : Cfg) (V : View) : T → Value → Prop
  | .none, v => v = .none
  | .bool b, v => v = .bool b
  | .int i, v => ∃ t, v = .int i t
  | .str s, v => ∃ t, v = .str s t
  | .tup l, v => ∃ a vs n, v = .ref a ∧ V a = some (.frz (tupO vs n)) ∧ IsL c V l vs
  | .list l, v => ∃ a vs n, v = .ref a ∧ V a = some (.frz (lstO vs n)) ∧ IsL c V l vs
  | .dict ks l, v => ∃ a es n, v = .ref a ∧ V a = some (.frz (dictOf es n)) ∧ (a == sysModules) = false ∧ KeysAre c.w es ks ∧ IsL c V l (es.map (·.val))
  | .vec k i a, v => ∃ x dx kv iv av, v = .ref x ∧ V x = some (.frz (instObj c.VC dx)) ∧ V dx = some (.vec kv iv av) ∧ Is c V k kv ∧ Is c V i iv ∧ Is c V a av
  | .rng x y z, v => ∃ r t u w, v = .ref r ∧ V r = some (.frz { cls := .type "range", dict := none, data := .fields #[.int x t, .int y u, .int z w], slots := #[] })
noncomputable def IsL (c : Cfg) (V : View) : List T → List Value → Prop
  | [], vs => vs = []
  | t :: ts, vs => ∃ v vs', vs = v :: vs' ∧ Is c V t v ∧ IsL c V ts vs'
end
noncomputable def VLeF (V V' : View) : Prop := ∀ a c, V a = some c → c.tag = none → V' a = some c
theorem VLe.toF {V V' : View} (h : VLe V V') : VLeF V V' := fun a c e _ => h a c e
theorem VLeF.trans {V V' V'' : View} (h : VLeF V V') (h' : VLeF V' V'') : VLeF V V'' := fun a c e t => h' a c (h a c e t) t
theorem VLeF.set {V : View} {a : Addr} {cl cl₀ : Cell} {G : Addr} (hv : V a = some cl₀) (ht : cl₀.tag = some G) : VLeF V (V.set a cl) := fun b c' e t => by
  rw [View.set_ne]; exact e
  rintro rfl; rw [hv] at e; cases e; rw [ht] at t; cases t
theorem VLe.setOf {V V1 : View} {a : Addr} {cl : Cell} (l : VLe V V1) (hv : V a = none) : VLe V (V1.set a cl) := fun b c' e => by
  rw [View.set_ne]; exact l b c' e
  rintro rfl; rw [hv] at e; cases e
theorem VLeS.toF {F : Addr} {V V' : View} (h : VLeS F V V') : VLeF V V' := fun a c e t => h a c e (by rw [t]; intro q; cases q)
mutual
theorem Is.mono {c : Cfg} {V V' : View} (l : VLeF V V') : ∀ (t : T) (v : Value), Is c V t v → Is c V' t v
  | .none, _, h => h
  | .bool _, _, h => h
  | .int _, _, h => h
  | .str _, _, h => h
  | .tup ts, _, h => by
    refine Classical.byContradiction fun hCC => ?_
    obtain ⟨a, vs, n, e, hv, hl⟩ := h
    refine hCC ?_
    clear hCC
    exact ⟨a, vs, n, e, l _ _ hv rfl, IsL.mono l ts vs hl⟩
  | .list ts, _, h => by
    refine Classical.byContradiction fun hCC => ?_
    obtain ⟨a, vs, n, e, hv, hl⟩ := h
    refine hCC ?_
    clear hCC
    exact ⟨a, vs, n, e, l _ _ hv rfl, IsL.mono l ts vs hl⟩
  | .dict _ ts, _, h => by
    refine Classical.byContradiction fun hCC => ?_
    obtain ⟨a, es, n, e, hv, hs, hk, hl⟩ := h
    refine hCC ?_
    clear hCC
    exact ⟨a, es, n, e, l _ _ hv rfl, hs, hk, IsL.mono l ts _ hl⟩
  | .vec k i a, _, h => by
    refine Classical.byContradiction fun hCC => ?_
    obtain ⟨x, dx, kv, iv, av, e, h1, h2, hk, hi, ha⟩ := h
    refine hCC ?_
    clear hCC
    exact ⟨x, dx, kv, iv, av, e, l _ _ h1 rfl, l _ _ h2 rfl, Is.mono l k _ hk, Is.mono l i _ hi, Is.mono l a _ ha⟩
  | .rng _ _ _, _, h => by
    refine Classical.byContradiction fun hCC => ?_
    obtain ⟨r, t, u, w, e, hv⟩ := h
    refine hCC ?_
    clear hCC
    exact ⟨r, t, u, w, e, l _ _ hv rfl⟩
theorem IsL.mono {c : Cfg} {V V' : View} (l : VLeF V V') : ∀ (ts : List T) (vs : List Value), IsL c V ts vs → IsL c V' ts vs
  | [], _, h => h
  | t :: ts, _, h => by
    refine Classical.byContradiction fun hCC => ?_
    obtain ⟨v, vs', e, h1, h2⟩ := h
    refine hCC ?_
    clear hCC
    exact ⟨v, vs', e, Is.mono l t v h1, IsL.mono l ts vs' h2⟩
end
theorem IsL.length {c : Cfg} {V : View} : ∀ {ts : List T} {vs : List Value}, IsL c V ts vs → vs.length = ts.length
  | [], _, h => by rw [show _ = [] from h]; rfl
  | _ :: ts, _, ⟨_, vs', e, _, h⟩ => by rw [e, List.length_cons, List.length_cons, IsL.length h]
theorem IsL.append {c : Cfg} {V : View} : ∀ {ts us : List T} {vs ws : List Value}, IsL c V ts vs → IsL c V us ws → IsL c V (ts ++ us) (vs ++ ws)
  | [], _, _, _, h, h' => by rw [show _ = [] from h]; exact h'
  | _ :: ts, _, _, _, ⟨v, vs', e, h1, h2⟩, h' => ⟨v, vs' ++ _, by rw [e]; rfl, h1, IsL.append h2 h'⟩
theorem IsL.get {c : Cfg} {V : View} : ∀ {ts : List T} {vs : List Value}, IsL c V ts vs → ∀ (i : Nat) (t : T), ts[i]? = some t → ∃ v, vs[i]? = some v ∧ Is c V t v
  | [], _, _, i, t, e => by cases e
  | _ :: ts, _, ⟨v, vs', e, h1, h2⟩, 0, t, q => by cases q; exact ⟨v, by rw [e]; rfl, h1⟩
  | _ :: ts, _, ⟨v, vs', e, h1, h2⟩, i + 1, t, q => by
    obtain ⟨v', q1, q2⟩ := IsL.get h2 i t (by simpa using q)
    exact ⟨v', by rw [e]; simpa using q1, q2⟩
theorem IsL.one {c : Cfg} {V : View} {t : T} {v : Value} (h : Is c V t v) : IsL c V [t] [v] := ⟨v, [], rfl, h, rfl⟩
theorem IsL.drop {c : Cfg} {V : View} : ∀ (n : Nat) {ts : List T} {vs : List Value}, IsL c V ts vs → IsL c V (ts.drop n) (vs.drop n)
  | 0, _, _, h => h
  | n + 1, [], _, h => by rw [show _ = [] from h]; rfl
  | n + 1, _ :: ts, _, ⟨v, vs', e, _, h2⟩ => by rw [e]; exact IsL.drop n h2
theorem IsL.take {c : Cfg} {V : View} : ∀ (n : Nat) {ts : List T} {vs : List Value}, IsL c V ts vs → IsL c V (ts.take n) (vs.take n)
  | 0, _, _, _ => by rw [List.take_zero, List.take_zero]; rfl
  | n + 1, [], _, h => by rw [show _ = [] from h]; rfl
  | n + 1, _ :: ts, _, ⟨v, vs', e, h1, h2⟩ => by rw [e]; exact ⟨v, vs'.take n, rfl, h1, IsL.take n h2⟩
theorem IsL.reverse {c : Cfg} {V : View} : ∀ {ts : List T} {vs : List Value}, IsL c V ts vs → IsL c V ts.reverse vs.reverse
  | [], _, h => by rw [show _ = [] from h]; rfl
  | _ :: ts, _, ⟨v, vs', e, h1, h2⟩ => by rw [e, List.reverse_cons, List.reverse_cons]; exact (IsL.reverse h2).append (.one h1)
structure AOk (n : Nat) (A : Around) : Prop where
  h : A.handled = none
  g : A.guards = some []
  d : A.depth + 3 * n + 3 < recursionLimit
  u : A.units + 12 * n + 90 < cLine
theorem AOk.le {n m : Nat} {A : Around} (a : AOk n A) (l : m ≤ n) : AOk m A := ⟨a.h, a.g, by have := a.d; omega, by have := a.u; omega⟩
theorem AOk.room {n : Nat} {A : Around} (a : AOk n A) : A.depth < recursionLimit := by have := a.d; omega
theorem AOk.deeper {n : Nat} {A : Around} (a : AOk (n + 1) A) (env : Env) : AOk n (A.deeper env) :=
  ⟨a.h, a.g, by have := a.d; show A.depth + 1 + 3 * n + 3 < _; omega, by have := a.u; show A.units + 3 + 12 * n + 90 < _; omega⟩
noncomputable def GivesR (c : Cfg) (A : Around) (V : View) {α : Type} (t : Sem α) (R : View → α → Prop) : Prop :=
  ∀ (s : Shared) (E : Value → Shared → Prop) (Q : α → Shared → Prop), Vw c V s.heap →
    (∀ v V' h' tk, VLe V V' → Vw c V' h' → R V' v → Q v { s with heap := h', toks := tk }) → wpAny c.M A t Q E s
noncomputable abbrev Gives (c : Cfg) (A : Around) (V : View) (t : Sem Value) (r : T) : Prop := GivesR c A V t fun V' v => Is c V' r v
noncomputable def Con (c : Cfg) (n : Nat) (f : Value) (args : List T) (r : T) : Prop :=
  ∀ A V vs, AOk n A → IsL c V args vs → Gives c A V (call f vs) r
end Mine
end
section
open PySem PySem.W PySem.Calls PyProof.Rows PySem.Spec
set_option genInjectivity false
set_option tactic.hygienic false
namespace Mine
mutual
noncomputable def pd : T → PyData
  | .none => .none
  | .bool b => .bool b
  | .int i => .int i
  | .str s => .str s
  | .tup l => .tuple (pdL l)
  | .list l => .list (pdL l)
  | .dict _ _ => .none
  | .vec _ _ _ => .none
  | .rng _ _ _ => .none
noncomputable def pdL : List T → List PyData
  | [] => []
  | t :: ts => pd t :: pdL ts
end
mutual
noncomputable def plainT : Nat → T → Bool
  | _, .none => true
  | _, .bool _ => true
  | _, .int _ => true
  | _, .str s => PyData.strOk s
  | 0, .tup _ => false
  | 0, .list _ => false
  | n + 1, .tup l => plainL n l
  | n + 1, .list l => plainL n l
  | _, .dict _ _ => false
  | _, .vec _ _ _ => false
  | _, .rng _ _ _ => false
noncomputable def plainL : Nat → List T → Bool
  | _, [] => true
  | n, t :: ts => plainT n t && plainL n ts
end
noncomputable def IsR (c : Cfg) (V : View) (t : T) (v : Value) : Prop :=
  Is c V t v ∨ ∃ ts a F i vs n, t = .list ts ∧ v = .ref a ∧ V a = some (.own F i (lstO vs n)) ∧ IsL c V ts vs
theorem Is.r {c : Cfg} {V : View} {t : T} {v : Value} (h : Is c V t v) : IsR c V t v := .inl h
theorem IsR.lst {c : Cfg} {V : View} {ts : List T} {v : Value} (h : IsR c V (.list ts) v) : ∃ a vs n, v = .ref a ∧ (∀ h, On V h → h.get? a = some (lstO vs n)) ∧ IsL c V ts vs := by
  rcases h with ⟨a, vs, n, e, hv, hl⟩ | ⟨ts', a, F, i, vs, n, e, e', hv, hl⟩
  · exact ⟨a, vs, n, e, fun h H => H.frz hv, hl⟩
  · cases e; exact ⟨a, vs, n, e', fun h H => H.own hv, hl⟩
theorem IsR.mono {c : Cfg} {V V' : View} {t : T} {v : Value} (h : IsR c V t v) (l : VLe V V') : IsR c V' t v := by
  rcases h with h | ⟨ts', a, F, i, vs, n, e, e', hv, hl⟩
  · exact .inl (Is.mono l.toF _ _ h)
  · exact .inr ⟨ts', a, F, i, vs, n, e, e', l _ _ hv, IsL.mono l.toF _ _ hl⟩
theorem IsR.is {c : Cfg} {V : View} {t : T} {v : Value} (h : IsR c V t v) (hn : ∀ ts, t ≠ .list ts) : Is c V t v := by
  rcases h with h | ⟨ts', _, _, _, _, _, e, _⟩
  · exact h
  · exact absurd e (hn ts')
theorem isList_of {h : Heap} {a : Addr} {vs : List Value} {n : Nat} (e : h.get? a = some (lstO vs n)) : h.IsList a vs.toArray := ⟨_, e, rfl, n, rfl⟩
theorem isTup_of {h : Heap} {a : Addr} {vs : List Value} {n : Nat} (e : h.get? a = some (tupO vs n)) : IsTup h a vs.toArray := ⟨_, e, rfl, n, rfl⟩
mutual
theorem reads_of {c : Cfg} {V : View} {h : Heap} (H : On V h) : ∀ (n : Nat) (t : T) (v : Value), Is c V t v → plainT n t = true → ∃ as, Reads h v (pd t) as
  | _, .none, _, hi, _ => by rw [show _ = Value.none from hi]; exact ⟨_, by rw [pd]; exact .none⟩
  | _, .bool b, _, hi, _ => by rw [show _ = Value.bool b from hi]; exact ⟨_, by rw [pd]; exact .bool b⟩
  | _, .int _, _, ⟨t, e⟩, _ => by rw [e]; exact ⟨_, by rw [pd]; exact .int _ t⟩
  | _, .str _, _, ⟨t, e⟩, _ => by rw [e]; exact ⟨_, by rw [pd]; exact .str _ t⟩
  | 0, .tup _, _, _, hp => by simp [plainT] at hp
  | 0, .list _, _, _, hp => by simp [plainT] at hp
  | n + 1, .tup l, _, ⟨a, vs, k, e, hv, hl⟩, hp => by
    obtain ⟨as, ra⟩ := readsL_of H n l vs hl (by simpa [plainT] using hp)
    rw [e]; exact ⟨_, by rw [pd]; exact .tuple (H.frz hv) rfl rfl (by simpa using ra)⟩
  | n + 1, .list l, _, ⟨a, vs, k, e, hv, hl⟩, hp => by
    obtain ⟨as, ra⟩ := readsL_of H n l vs hl (by simpa [plainT] using hp)
    rw [e]; exact ⟨_, by rw [pd]; exact .list (H.frz hv) rfl rfl (by simpa using ra)⟩
  | _, .dict _ _, _, _, hp => by simp [plainT] at hp
  | _, .vec _ _ _, _, _, hp => by simp [plainT] at hp
  | _, .rng _ _ _, _, _, hp => by simp [plainT] at hp
theorem readsL_of {c : Cfg} {V : View} {h : Heap} (H : On V h) : ∀ (n : Nat) (ts : List T) (vs : List Value), IsL c V ts vs → plainL n ts = true → ∃ as, ReadsAll h vs (pdL ts) as
  | _, [], _, e, _ => by rw [show _ = [] from e]; exact ⟨_, .nil⟩
  | n, t :: ts, _, ⟨v, vs', e, h1, h2⟩, hp => by
    simp only [plainL, Bool.and_eq_true] at hp
    obtain ⟨as, ra⟩ := reads_of H n t v h1 hp.1
    obtain ⟨bs, rb⟩ := readsL_of H n ts vs' h2 hp.2
    rw [e]; exact ⟨_, .cons ra rb⟩
end
theorem readsR_of {c : Cfg} {V : View} {h : Heap} (H : On V h) {n : Nat} {t : T} {v : Value} (hi : IsR c V t v) (hp : plainT n t = true) : ∃ as, Reads h v (pd t) as := by
  rcases hi with hi | ⟨ts, a, F, i, vs, k, rfl, rfl, hv, hl⟩
  · exact reads_of H n t v hi hp
  · cases n with
    | zero => simp [plainT] at hp
    | succ n =>
      obtain ⟨as, ra⟩ := readsL_of H n ts vs hl (by simpa [plainT] using hp)
      exact ⟨_, by rw [pd]; exact .list (H.own hv) rfl rfl (by simpa using ra)⟩
mutual
theorem shaped_of : ∀ (n : Nat) (t : T), plainT n t = true → (pd t).canLay0 = true ∧ (pd t).depth ≤ n
  | _, .none, _ => by simp [pd, PyData.canLay0, PyData.depth]
  | _, .bool _, _ => by simp [pd, PyData.canLay0, PyData.depth]
  | _, .int _, _ => by simp [pd, PyData.canLay0, PyData.depth]
  | _, .str _, h => by simpa [pd, PyData.canLay0, PyData.depth, plainT] using h
  | 0, .tup _, h => by simp [plainT] at h
  | 0, .list _, h => by simp [plainT] at h
  | n + 1, .tup l, h => by
    have := shapedL_of n l (by simpa [plainT] using h)
    simp only [pd, PyData.canLay0, PyData.depth]; exact ⟨this.1, Nat.succ_le_succ this.2⟩
  | n + 1, .list l, h => by
    have := shapedL_of n l (by simpa [plainT] using h)
    simp only [pd, PyData.canLay0, PyData.depth]; exact ⟨this.1, Nat.succ_le_succ this.2⟩
  | _, .dict _ _, h => by simp [plainT] at h
  | _, .vec _ _ _, h => by simp [plainT] at h
  | _, .rng _ _ _, h => by simp [plainT] at h
theorem shapedL_of : ∀ (n : Nat) (ts : List T), plainL n ts = true → PyData.canLayAll0 (pdL ts) = true ∧ PyData.depthAll (pdL ts) ≤ n
  | _, [], _ => by simp [pdL, PyData.canLayAll0, PyData.depthAll]
  | n, t :: ts, h => by
    simp only [plainL, Bool.and_eq_true] at h
    have a := shaped_of n t h.1
    have b := shapedL_of n ts h.2
    simp only [pdL, PyData.canLayAll0, PyData.depthAll, a.1, b.1, Bool.and_self, true_and]
    exact Nat.max_le.mpr ⟨a.2, b.2⟩
end
noncomputable def smallI (a : Int) : Bool := decide (a.natAbs < 2 ^ 63)
noncomputable def lim : Nat := 1048576
theorem lim_line : lim ≤ sizeLine := by rw [sizeLine_eq]; decide
noncomputable def tI {α : Type} (t : T) (f : Int → Option α) : Option α := match t with
  | .int i => f i
  | _ => none
noncomputable def tS {α : Type} (t : T) (f : Str → Option α) : Option α := match t with
  | .str i => f i
  | _ => none
noncomputable def tL {α : Type} (t : T) (f : List T → Option α) : Option α := match t with
  | .list i => f i
  | _ => none
theorem tI_el {α : Type} {t : T} {f : Int → Option α} {r : α} {C : Prop} (h : tI t f = some r) (k : ∀ i, t = .int i → f i = some r → C) : C := by
  cases t with
  | int i => exact k i rfl h
  | _ => exact none_el h
theorem tS_el {α : Type} {t : T} {f : Str → Option α} {r : α} {C : Prop} (h : tS t f = some r) (k : ∀ i, t = .str i → f i = some r → C) : C := by
  cases t with
  | str i => exact k i rfl h
  | _ => exact none_el h
theorem tL_el {α : Type} {t : T} {f : List T → Option α} {r : α} {C : Prop} (h : tL t f = some r) (k : ∀ i, t = .list i → f i = some r → C) : C := by
  cases t with
  | list i => exact k i rfl h
  | _ => exact none_el h
noncomputable def tadd (a b : T) : Option T := match a with
  | .int a => tI b fun b => some (.int (a + b))
  | .str x => tS b fun y => if x.length + y.length ≤ lim then some (.str (x ++ y)) else none
  | .list xs => tL b fun ys => if xs.length + ys.length ≤ lim then some (.list (xs ++ ys)) else none
  | _ => none
noncomputable def tmul (a b : T) : Option T := match a with
  | .int a => tI b fun b => if smallI a && smallI b then some (.int (a * b)) else none
  | .list l => tI b fun k => match l with
    | [x] => if 0 ≤ k ∧ k ≤ 1000 then some (.list (List.replicate k.toNat x)) else none
    | _ => none
  | _ => none
noncomputable def tbin (op : Operator) (a b : T) : Option T := match op with
  | .Add => tadd a b
  | .Sub => tI a fun a => tI b fun b => some (.int (a - b))
  | .Mult => tmul a b
  | .Mod => tI a fun a => tI b fun b => if 0 < b then some (.int (a % b)) else none
  | .Pow => tI a fun a => tI b fun b => if 0 ≤ b ∧ b ≤ 100 ∧ smallI a then some (.int (a ^ b.toNat)) else none
  | _ => none
noncomputable def teq (a b : T) : Bool := PyData.eqv (pd a) (pd b)
noncomputable def tIn (x : T) : T → Option Bool
  | .list l => if plainT 4 x && plainL 4 l then some (l.any fun y => teq y x) else none
  | .tup l => if plainT 4 x && plainL 4 l then some (l.any fun y => teq y x) else none
  | .dict ks _ => match x with
    | .str k => some (ks.contains k)
    | _ => none
  | _ => none
noncomputable def strLt (x y : Str) : Bool := decide (x.cps.toList < y.cps.toList)
noncomputable def tEq : T → T → Option Bool
  | .int a, .int b => some (a == b)
  | .str x, .str y => some (x == y)
  | a, b => if plainT 4 a && plainT 4 b then some (teq a b) else none
noncomputable def isNoneT : T → Bool
  | .none => true
  | _ => false
noncomputable def tcmp (op : CmpOp) (a b : T) : Option Bool := match op with
  | .Eq => tEq a b
  | .NotEq => (tEq a b).map (!·)
  | .Lt => match a with
    | .int a => tI b fun b => some (decide (a < b))
    | .str x => tS b fun y => some (strLt x y)
    | _ => none
  | .LtE => tI a fun a => tI b fun b => some (decide (a ≤ b))
  | .Gt => match a with
    | .int a => tI b fun b => some (decide (b < a))
    | .str x => tS b fun y => some (strLt y x)
    | _ => none
  | .GtE => tI a fun a => tI b fun b => some (decide (b ≤ a))
  | .Is => match b with
    | .none => some (isNoneT a)
    | _ => none
  | .IsNot => match b with
    | .none => some (!isNoneT a)
    | _ => none
  | .In => tIn a b
  | .NotIn => (tIn a b).map (!·)
section
variable {c : Cfg} {A : Around} {V : View} {n : Nat}
theorem GivesR.pure {α : Type} {a : α} {R : View → α → Prop} (h : R V a) : GivesR c A V (Pure.pure a : Sem α) R := fun _ _ _ hV hQ => wpAny_pure (hQ a V _ _ (VLe.refl V) hV h)
theorem GivesR.weak {α : Type} {t : Sem α} {R R' : View → α → Prop} (h : GivesR c A V t R) (hr : ∀ V' a, VLe V V' → R V' a → R' V' a) : GivesR c A V t R' :=
  fun s E Q hV hQ => h s E Q hV fun v V1 h1 tk1 l1 hV1 r1 => hQ v V1 h1 tk1 l1 hV1 (hr V1 v l1 r1)
theorem smallI_lt {a : Int} (h : smallI a = true) : a.natAbs < 2 ^ 63 := of_decide_eq_true h
theorem smallI_bits {a : Int} (h : smallI a = true) : -(2 ^ 63) < a ∧ a < 2 ^ 63 := by
  have := smallI_lt h; omega
theorem rep_fold (v : Value) : ∀ (k : Nat) (acc : Array Value), List.foldl (fun x1 x2 : Array Value => x1 ++ x2) acc (List.replicate k [v].toArray) = (acc.toList ++ List.replicate k v).toArray
  | 0, acc => by simp
  | k + 1, acc => by
    rw [List.replicate_succ, List.foldl_cons, rep_fold v k, List.replicate_succ]
    apply Array.ext'
    simp
theorem IsL.replicate {t : T} {v : Value} (h : Is c V t v) : ∀ k : Nat, IsL c V (List.replicate k t) (List.replicate k v)
  | 0 => rfl
  | k + 1 => ⟨v, _, rfl, h, IsL.replicate h k⟩
theorem new_frz {o : Obj} {s : Shared} {t : T} (hV : Vw c V s.heap) (hf : o.isFreed = false) {Q : Value → Shared → Prop} {tk : Nat}
    (hQ : ∀ v V' h' tk, VLe V V' → Vw c V' h' → Is c V' t v → Q v { s with heap := h', toks := tk }) (hi : ∀ V', VLe V V' → V' s.heap.objs.size = some (.frz o) → Is c V' t (.ref s.heap.objs.size)) :
    Q (.ref s.heap.objs.size) { s with heap := s.heap.push o, toks := tk } :=
  hQ _ _ _ tk (VLe.set (hV.on.fresh (Nat.le_refl _))) (hV.push (cl := .frz o) rfl hf) (hi _ (VLe.set (hV.on.fresh (Nat.le_refl _))) (View.set_self ..))
theorem bin_gives (op : Operator) (a b r : T) (va vb : Value) (e : tbin op a b = some r) (ha : IsR c V a va) (hb : IsR c V b vb) : Gives c A V (binaryOp op va vb) r := by
  cases op with
  | Add =>
    replace e : tadd a b = some r := e
    cases a with
    | int a =>
      refine tI_el e fun b ex e2 => ?_
      clear e; subst ex; have e := e2; clear e2
      (refine some_el e fun qq => ?_; subst qq; clear e); obtain ⟨t, rfl⟩ := ha.is (by intro _ h; cases h); obtain ⟨u, rfl⟩ := hb.is (by intro _ h; cases h)
      exact fun s E Q hV hQ => add_int (hQ _ V _ _ (VLe.refl V) hV ⟨_, rfl⟩)
    | str x =>
      refine tS_el e fun y ex e2 => ?_
      clear e; subst ex; have e := e2; clear e2
      obtain ⟨t, rfl⟩ := ha.is (by intro _ h; cases h); obtain ⟨u, rfl⟩ := hb.is (by intro _ h; cases h)
      split at e
      · rename_i q; (refine some_el e fun qq => ?_; subst qq; clear e)
        exact fun s E Q hV hQ => add_str (fun t' tk => hQ _ V _ _ (VLe.refl V) hV ⟨_, rfl⟩) (Nat.le_trans q lim_line)
      · exact none_el e
    | list xs =>
      refine tL_el e fun ys ex e2 => ?_
      clear e; subst ex; have e := e2; clear e2
      split at e
      · rename_i q; (refine some_el e fun qq => ?_; subst qq; clear e)
        refine Classical.byContradiction fun hCC => ?_
        refine xa_3_3 (ha.lst) fun x vs k rq0 hx hxs => ?_
        subst rq0
        refine xa_3_3 (hb.lst) fun y ws k' rq0 hy hys => ?_
        subst rq0
        refine hCC ?_
        clear hCC
        intro s E Q hV hQ
        refine Classical.byContradiction fun hCC => ?_
        refine xa_4_1 (hV.bridge) fun h₀ L m news B => ?_
        refine hCC ?_
        clear hCC
        refine add_arrays B.fr B.nw (isList_of (hx _ hV.on)) (isList_of (hy _ hV.on)) (fun h' F' N' => ?_) (by
          rw [List.size_toArray, List.size_toArray, hxs.length, hys.length]; exact Nat.le_trans q lim_line)
        refine xa_0_3 (B.one F' N' fun p hp => Heap.lt_size (B.nw p hp).1) fun w1 w2 w3 => ?_
        refine hQ _ _ _ s.toks (VLe.set w3) (w1.add (cl := .frz _) w3 w2 rfl) ⟨_, vs ++ ws, 0, rfl, ?_, (IsL.append hxs hys).mono (VLe.set w3).toF⟩
        rw [View.set_self]
      · exact none_el e
    | _ => exact none_el e
  | Sub =>
    refine tI_el e fun a ex e1 => tI_el e1 fun b ex2 e2 => ?_
    clear e e1; subst ex ex2; have e := e2; clear e2
    (refine some_el e fun qq => ?_; subst qq; clear e); obtain ⟨t, rfl⟩ := ha.is (by intro _ h; cases h); obtain ⟨u, rfl⟩ := hb.is (by intro _ h; cases h)
    exact fun s E Q hV hQ => sub_int (hQ _ V _ _ (VLe.refl V) hV ⟨_, rfl⟩)
  | Mult =>
    replace e : tmul a b = some r := e
    cases a with
    | int a =>
      refine tI_el e fun b ex e2 => ?_
      clear e; subst ex; have e := e2; clear e2
      obtain ⟨t, rfl⟩ := ha.is (by intro _ h; cases h); obtain ⟨u, rfl⟩ := hb.is (by intro _ h; cases h)
      split at e
      · rename_i q; (refine some_el e fun qq => ?_; subst qq; clear e)
        obtain ⟨q1, q2⟩ := (Bool.and_eq_true_iff.mp q)
        exact fun s E Q hV hQ => mul_int (hQ _ V _ _ (VLe.refl V) hV ⟨_, rfl⟩) (.of_left (by
          have := smallI_bits q1
          exact intBits_le_64 (by omega) (by omega)))
      · exact none_el e
    | list l =>
      refine tI_el e fun k ex e2 => ?_
      clear e; subst ex; have e := e2; clear e2
      cases l with
      | nil => exact none_el e
      | cons x l =>
        cases l with
        | cons _ _ => exact none_el e
        | nil =>
          change (if 0 ≤ k ∧ k ≤ 1000 then some (T.list (List.replicate k.toNat x)) else none) = some r at e
          split at e
          · rename_i q; (refine some_el e fun qq => ?_; subst qq; clear e)
            obtain ⟨u, rfl⟩ := hb.is (by intro _ h; cases h)
            refine Classical.byContradiction fun hCC => ?_
            refine xa_3_3 (ha.lst) fun y vs j rq0 hx hxs => ?_
            subst rq0
            refine xa_2_3 (hxs) fun v vs' rq0 hxv rq1 => ?_
            try clear hxs
            subst rq0
            subst rq1
            refine hCC ?_
            clear hCC
            intro s E Q hV hQ
            refine Classical.byContradiction fun hCC => ?_
            refine xa_4_1 (hV.bridge) fun h₀ L m news B => ?_
            refine hCC ?_
            clear hCC
            refine mul_list B.fr B.nw (hx _ hV.on) (by omega) (by omega) (by simp; omega) fun h' F' N' => ?_
            refine xa_0_3 (B.one F' N' fun p hp => Heap.lt_size (B.nw p hp).1) fun w1 w2 w3 => ?_
            have e0 : (List.foldl (fun x1 x2 : Array Value => x1 ++ x2) #[] (List.replicate (if ([v].toArray).isEmpty = true then 0 else k.toNat) [v].toArray)) = (List.replicate k.toNat v).toArray := by
              rw [if_neg (by simp), rep_fold]; simp
            rw [e0] at w2 N'
            refine hQ _ _ _ s.toks (VLe.set w3) (w1.add (cl := .frz (lstO (List.replicate k.toNat v) 0)) w3 w2 rfl) ⟨_, List.replicate k.toNat v, 0, rfl, View.set_self .., IsL.replicate (hxv.mono (VLe.set w3).toF) _⟩
          · exact none_el e
    | _ => exact none_el e
  | Mod =>
    refine tI_el e fun a ex e1 => tI_el e1 fun b ex2 e2 => ?_
    clear e e1; subst ex ex2; have e := e2; clear e2
    obtain ⟨t, rfl⟩ := ha.is (by intro _ h; cases h); obtain ⟨u, rfl⟩ := hb.is (by intro _ h; cases h)
    split at e
    · rename_i q; (refine some_el e fun qq => ?_; subst qq; clear e)
      exact fun s E Q hV hQ => mod_int' (by omega) (by rw [Int.fmod_eq_emod_of_nonneg _ (Int.le_of_lt q)]; exact hQ _ V _ _ (VLe.refl V) hV ⟨_, rfl⟩)
    · exact none_el e
  | Pow =>
    refine tI_el e fun a ex e1 => tI_el e1 fun b ex2 e2 => ?_
    clear e e1; subst ex ex2; have e := e2; clear e2
    obtain ⟨t, rfl⟩ := ha.is (by intro _ h; cases h); obtain ⟨u, rfl⟩ := hb.is (by intro _ h; cases h)
    split at e
    · rename_i q; (refine some_el e fun qq => ?_; subst qq; clear e)
      exact fun s E Q hV hQ => pow_int_small q.1 (by omega) (Nat.lt_trans (smallI_lt q.2.2) (by decide)) (hQ _ V _ _ (VLe.refl V) hV ⟨_, rfl⟩)
    · exact none_el e
  | _ => exact none_el e
end
end Mine
end
section
open PySem PySem.W PySem.Calls PyProof.Rows PySem.Spec PySem.SeqAt
set_option genInjectivity false
set_option tactic.hygienic false
namespace Mine
section
variable {c : Cfg} {A : Around} {V : View} {n : Nat}
theorem KeysAre.all {w : World} : ∀ {es : List DictEntry} {ks : List Str}, KeysAre w es ks → ∀ e ∈ es, ∃ k t, e.key = .str k t ∧ e.hash = PyData.keyHash w.params k
  | [], _, _, _, hx => nomatch hx
  | _ :: _, _, h, x, hx => h.elim fun k h => h.elim fun _ h => (List.mem_cons.mp hx).elim (fun q => h.2.1.elim fun t h1 => ⟨k, t, q ▸ h1, q ▸ h.2.2.1⟩) fun hx => KeysAre.all h.2.2.2 x hx
noncomputable def dlook : List Str → List T → Str → Option T
  | k :: ks, t :: ts, x => if k = x then some t else dlook ks ts x
  | _, _, _ => none
theorem isStrOf_str (x k : Str) (t : Tok) : Value.isStrOf x (.str k t) = decide (k = x) := by
  rw [← isStr_of]; show (k == x) = _
  rw [Bool.eq_iff_iff]; simp
theorem KeysAre.find {w : World} {V : View} : ∀ {es : List DictEntry} {ks : List Str} {ts : List T}, KeysAre w es ks → IsL c V ts (es.map (·.val)) → ∀ x,
    match findBy Value.isStrOf es.toArray x with
    | some v => ∃ t, dlook ks ts x = some t ∧ Is c V t v
    | none => dlook ks ts x = none
  | [], _, ts, h, h', x => by
    rw [show _ = [] from h]
    show dlook [] ts x = none
    cases ts <;> rfl
  | e :: es, _, [], ⟨k, ks', hk, _, _, _⟩, h', x => by cases (show e.val :: _ = [] from h')
  | e :: es, _, t :: ts, ⟨k, ks', hk, ⟨tk, h1⟩, h2, h3⟩, ⟨v, vs', q, q1, q2⟩, x => by
    have ih := KeysAre.find h3 (by rw [List.map_cons] at q; obtain ⟨-, q'⟩ := List.cons.inj q; rw [q']; exact q2) x
    obtain ⟨qv, q'⟩ := List.cons.inj q
    subst hk
    unfold findBy at ih ⊢
    simp only [List.find?_toArray, List.find?_cons, h1, isStrOf_str] at ih ⊢
    by_cases hx : k = x
    · subst hx
      simp only [decide_true, dlook, if_true, Option.map_some]
      exact ⟨t, rfl, by rw [show e.val = v from qv]; exact q1⟩
    · simp only [hx, decide_false, dlook, if_false]
      exact ih
theorem dlook_isSome : ∀ {ks : List Str} {ts : List T}, ks.length = ts.length → ∀ x, (dlook ks ts x).isSome = ks.contains x
  | [], [], _, x => rfl
  | [], _ :: _, h, _ => by cases h
  | _ :: _, [], h, _ => by cases h
  | k :: ks, t :: ts, h, x => by
    unfold dlook
    by_cases hx : k = x
    · simp [hx]
    · simp only [hx, if_false, List.contains_cons]
      rw [dlook_isSome (by simpa using h)]
      have : (x == k) = false := by simp [Ne.symm hx]
      rw [this, Bool.false_or]
theorem KeysAre.length {w : World} : ∀ {es : List DictEntry} {ks : List Str}, KeysAre w es ks → ks.length = es.length
  | [], _, h => by rw [show _ = [] from h]; rfl
  | _ :: es, _, ⟨_, ks', e, _, _, h⟩ => by rw [e, List.length_cons, List.length_cons, KeysAre.length h]
theorem mapOf_at {h : Heap} {a : Addr} {es : List DictEntry} {k : Nat} {ks : List Str} (hv : h.get? a = some (dictOf es k)) (hk : KeysAre c.w es ks) :
    h.MapOf (PySem.strKind c.prog c.w) a (fun x => findBy Value.isStrOf es.toArray x) :=
  ⟨_, es.toArray, k, hv, ⟨rfl, rfl, rfl⟩, rfl, fun e he => by
    refine Classical.byContradiction fun hCC => ?_
    refine xa_2_2 (hk.all e (by simpa using he)) fun x t e1 e2 => ?_
    refine hCC ?_
    clear hCC
    exact ⟨x, by rw [e1]; exact strKind_is c.prog c.w x t, e2⟩, fun _ => rfl⟩
theorem pdL_any (d : PyData) : ∀ l : List T, (pdL l).any (fun y => PyData.eqv y d) = l.any fun y => PyData.eqv (pd y) d
  | [] => rfl
  | t :: ts => by rw [pdL, List.any_cons, List.any_cons, pdL_any d ts]
theorem tok_mono {s : Shared} {Q : Value → Shared → Prop} {v : Value} {t : T} (hV : Vw c V s.heap) (hQ : ∀ v V' h' tk, VLe V V' → Vw c V' h' → Is c V' t v → Q v { s with heap := h', toks := tk }) (hi : Is c V t v) : Q v s := hQ v V s.heap s.toks (VLe.refl V) hV hi
theorem isNone_val {t : T} {v : Value} (h : IsR c V t v) : (v == Value.none) = isNoneT t := by
  rcases h with h | ⟨ts, a, F, i, vs, k, rfl, rfl, _⟩
  · cases t with
    | none => rw [show v = _ from h]; rfl
    | bool b => rw [show v = _ from h]; rfl
    | int i => obtain ⟨u, rfl⟩ := h; rfl
    | str s => obtain ⟨u, rfl⟩ := h; rfl
    | tup l => obtain ⟨a, vs, k, rfl, _⟩ := h; rfl
    | list l => obtain ⟨a, vs, k, rfl, _⟩ := h; rfl
    | dict ks l => obtain ⟨a, vs, k, rfl, _⟩ := h; rfl
    | vec k i a => obtain ⟨x, _, _, _, _, rfl, _⟩ := h; rfl
    | rng x y z => obtain ⟨x, _, _, _, rfl, _⟩ := h; rfl
  · rfl
set_option tactic.hygienic true in
theorem in_gives (a b : T) (va vb : Value) (r : Bool) (hA : AOk n A) (e : tIn a b = some r) (ha : IsR c V a va) (hb : IsR c V b vb) :
    Gives c A V (compareOp .In va vb) (.bool r) ∧ Gives c A V (compareOp .NotIn va vb) (.bool (!r)) := by
  have hu := hA.u
  unfold tIn at e
  split at e
  · rename_i l
    split at e
    · rename_i q; (refine some_el e fun qq => ?_; subst qq; clear e)
      obtain ⟨q1, q2⟩ := Bool.and_eq_true_iff.mp q
      have s1 := shaped_of 4 a q1
      have s2 := shapedL_of 4 l q2
      have hm : min (PyData.depthAll (pdL l)) (pd a).depth ≤ 4 := Nat.le_trans (Nat.min_le_right _ _) s1.2
      have key : ∀ s : Shared, Vw c V s.heap → (∃ as, Reads s.heap va (pd a) as) ∧ ∃ bs, Reads s.heap vb (.list (pdL l)) bs := fun s hV => by
        obtain ⟨as, r1⟩ := readsR_of hV.on ha q1
        obtain ⟨bs, r2⟩ := readsR_of hV.on (n := 5) hb (by simpa [plainT] using q2)
        exact ⟨⟨as, r1⟩, bs, by simpa [pd] using r2⟩
      constructor
      · intro s E Q hV hQ
        refine Classical.byContradiction fun hCC => ?_
        obtain ⟨⟨as, r1⟩, bs, r2⟩ := key s hV
        refine hCC ?_
        clear hCC
        exact in_list_reads r2 r1 s2.1 s1.1 (by omega) (by rw [pdL_any]; exact tok_mono hV hQ rfl)
      · intro s E Q hV hQ
        refine Classical.byContradiction fun hCC => ?_
        obtain ⟨⟨as, r1⟩, bs, r2⟩ := key s hV
        refine hCC ?_
        clear hCC
        exact notIn_list_reads r2 r1 s2.1 s1.1 (by omega) (by rw [pdL_any]; exact tok_mono hV hQ rfl)
    · exact none_el e
  · rename_i l
    split at e
    · rename_i q; (refine some_el e fun qq => ?_; subst qq; clear e)
      obtain ⟨q1, q2⟩ := Bool.and_eq_true_iff.mp q
      have s1 := shaped_of 4 a q1
      have s2 := shapedL_of 4 l q2
      have hm : min (PyData.depthAll (pdL l)) (pd a).depth ≤ 4 := Nat.le_trans (Nat.min_le_right _ _) s1.2
      have key : ∀ s : Shared, Vw c V s.heap → (∃ as, Reads s.heap va (pd a) as) ∧ ∃ bs, Reads s.heap vb (.tuple (pdL l)) bs := fun s hV => by
        obtain ⟨as, r1⟩ := readsR_of hV.on ha q1
        obtain ⟨bs, r2⟩ := readsR_of hV.on (n := 5) hb (by simpa [plainT] using q2)
        exact ⟨⟨as, r1⟩, bs, by simpa [pd] using r2⟩
      constructor
      · intro s E Q hV hQ
        refine Classical.byContradiction fun hCC => ?_
        obtain ⟨⟨as, r1⟩, bs, r2⟩ := key s hV
        refine hCC ?_
        clear hCC
        exact in_tuple_reads r2 r1 s2.1 s1.1 (by omega) (by rw [pdL_any]; exact tok_mono hV hQ rfl)
      · intro s E Q hV hQ
        refine Classical.byContradiction fun hCC => ?_
        obtain ⟨⟨as, r1⟩, bs, r2⟩ := key s hV
        refine hCC ?_
        clear hCC
        exact notIn_tuple_reads r2 r1 s2.1 s1.1 (by omega) (by rw [pdL_any]; exact tok_mono hV hQ rfl)
    · exact none_el e
  · rename_i ks l
    split at e
    · rename_i k; (refine some_el e fun qq => ?_; subst qq; clear e)
      obtain ⟨t, rfl⟩ := ha.is (by intro _ h; cases h)
      obtain ⟨d, es, j, rfl, hv, hs, hk, hl⟩ := hb.is (by intro _ h; cases h)
      have hlen : ks.length = l.length := by rw [hk.length, ← hl.length, List.length_map]
      have hf : (findBy Value.isStrOf es.toArray k).isSome = ks.contains k := by
        rw [← dlook_isSome hlen]
        have := hk.find hl k
        split at this
        · rename_i q; obtain ⟨t', q', _⟩ := this; rw [q, q']; rfl
        · rename_i q; rw [q, this]; rfl
      constructor
      · intro s E Q hV hQ
        refine wpAny_in_of (strKind_is c.prog c.w k t) hs (mapOf_at (hV.on.frz hv) hk) ?_
        rw [hf]
        exact hQ _ V s.heap _ (VLe.refl V) hV rfl
      · intro s E Q hV hQ
        refine wpAny_notIn_of (strKind_is c.prog c.w k t) hs (mapOf_at (hV.on.frz hv) hk) ?_
        rw [hf]
        exact hQ _ V s.heap _ (VLe.refl V) hV rfl
    · exact none_el e
  · exact none_el e
theorem eq_gives (a b : T) (va vb : Value) (r : Bool) (hA : AOk n A) (e : tEq a b = some r) (ha : IsR c V a va) (hb : IsR c V b vb) :
    Gives c A V (compareOp .Eq va vb) (.bool r) ∧ Gives c A V (compareOp .NotEq va vb) (.bool (!r)) := by
  have hu := hA.u
  unfold tEq at e
  split at e
  · (refine some_el e fun qq => ?_; subst qq; clear e); obtain ⟨t, rfl⟩ := ha.is (by intro _ h; cases h); obtain ⟨u, rfl⟩ := hb.is (by intro _ h; cases h)
    exact ⟨fun s E Q hV hQ => eq_int (tok_mono hV hQ rfl), fun s E Q hV hQ => ne_int (tok_mono hV hQ rfl)⟩
  · (refine some_el e fun qq => ?_; subst qq; clear e); obtain ⟨t, rfl⟩ := ha.is (by intro _ h; cases h); obtain ⟨u, rfl⟩ := hb.is (by intro _ h; cases h)
    exact ⟨fun s E Q hV hQ => eq_str (tok_mono hV hQ rfl), fun s E Q hV hQ => ne_str (tok_mono hV hQ rfl)⟩
  · split at e
    · rename_i q; (refine some_el e fun qq => ?_; subst qq; clear e)
      obtain ⟨q1, q2⟩ := Bool.and_eq_true_iff.mp q
      have s1 := shaped_of 4 a q1
      have s2 := shaped_of 4 b q2
      have sh : ∀ {d : PyData}, d.canLay0 = true ∧ d.depth ≤ 4 → shaped d = true := fun h => by
        show (_ && decide _) = true
        rw [h.1, Bool.true_and]; exact decide_eq_true (by omega)
      constructor
      · intro s E Q hV hQ
        obtain ⟨as, r1⟩ := readsR_of hV.on ha q1
        obtain ⟨bs, r2⟩ := readsR_of hV.on hb q2
        exact eq_dataH r1 r2 (sh s1) (sh s2) (by omega) (tok_mono hV hQ rfl)
      · intro s E Q hV hQ
        obtain ⟨as, r1⟩ := readsR_of hV.on ha q1
        obtain ⟨bs, r2⟩ := readsR_of hV.on hb q2
        exact ne_dataH r1 r2 (sh s1) (sh s2) (by omega) (tok_mono hV hQ rfl)
    · exact none_el e
theorem cmp_gives (op : CmpOp) (a b : T) (va vb : Value) (r : Bool) (hA : AOk n A) (e : tcmp op a b = some r) (ha : IsR c V a va) (hb : IsR c V b vb) : Gives c A V (compareOp op va vb) (.bool r) := by
  cases op with
  | Eq =>
    exact (eq_gives _ _ _ _ _ hA e ha hb).1
  | NotEq =>
    refine xa_1_2 (Option.map_eq_some_iff.mp e) fun r' e' rq0 => ?_
    subst rq0
    exact (eq_gives _ _ _ _ _ hA e' ha hb).2
  | Lt =>
    cases a with
    | int a =>
      refine tI_el e fun b ex e2 => ?_
      clear e; subst ex; have e := e2; clear e2
      (refine some_el e fun qq => ?_; subst qq; clear e); obtain ⟨t, rfl⟩ := ha.is (by intro _ h; cases h); obtain ⟨u, rfl⟩ := hb.is (by intro _ h; cases h)
      exact fun s E Q hV hQ => lt_int (tok_mono hV hQ rfl)
    | str x =>
      refine tS_el e fun y ex e2 => ?_
      clear e; subst ex; have e := e2; clear e2
      (refine some_el e fun qq => ?_; subst qq; clear e); obtain ⟨t, rfl⟩ := ha.is (by intro _ h; cases h); obtain ⟨u, rfl⟩ := hb.is (by intro _ h; cases h)
      exact fun s E Q hV hQ => lt_str (tok_mono hV hQ rfl)
    | _ => exact none_el e
  | LtE =>
    refine tI_el e fun a ex e1 => tI_el e1 fun b ex2 e2 => ?_
    clear e e1; subst ex ex2; have e := e2; clear e2
    (refine some_el e fun qq => ?_; subst qq; clear e); obtain ⟨t, rfl⟩ := ha.is (by intro _ h; cases h); obtain ⟨u, rfl⟩ := hb.is (by intro _ h; cases h)
    exact fun s E Q hV hQ => le_int (tok_mono hV hQ rfl)
  | Gt =>
    cases a with
    | int a =>
      refine tI_el e fun b ex e2 => ?_
      clear e; subst ex; have e := e2; clear e2
      (refine some_el e fun qq => ?_; subst qq; clear e); obtain ⟨t, rfl⟩ := ha.is (by intro _ h; cases h); obtain ⟨u, rfl⟩ := hb.is (by intro _ h; cases h)
      exact fun s E Q hV hQ => gt_int (tok_mono hV hQ rfl)
    | str x =>
      refine tS_el e fun y ex e2 => ?_
      clear e; subst ex; have e := e2; clear e2
      (refine some_el e fun qq => ?_; subst qq; clear e); obtain ⟨t, rfl⟩ := ha.is (by intro _ h; cases h); obtain ⟨u, rfl⟩ := hb.is (by intro _ h; cases h)
      exact fun s E Q hV hQ => PySem.P.gt_str (tok_mono hV hQ rfl)
    | _ => exact none_el e
  | GtE =>
    refine tI_el e fun a ex e1 => tI_el e1 fun b ex2 e2 => ?_
    clear e e1; subst ex ex2; have e := e2; clear e2
    (refine some_el e fun qq => ?_; subst qq; clear e); obtain ⟨t, rfl⟩ := ha.is (by intro _ h; cases h); obtain ⟨u, rfl⟩ := hb.is (by intro _ h; cases h)
    exact fun s E Q hV hQ => ge_int (tok_mono hV hQ rfl)
  | Is =>
    cases b with
    | none =>
      (refine some_el e fun qq => ?_; subst qq; clear e)
      obtain rfl : vb = .none := hb.is (by intro _ h; cases h)
      exact fun s E Q hV hQ => is_none (by rw [isNone_val ha]; exact tok_mono hV hQ rfl)
    | _ => exact none_el e
  | IsNot =>
    cases b with
    | none =>
      (refine some_el e fun qq => ?_; subst qq; clear e)
      obtain rfl : vb = .none := hb.is (by intro _ h; cases h)
      exact fun s E Q hV hQ => isNot_none (by rw [isNone_val ha]; exact tok_mono hV hQ rfl)
    | _ => exact none_el e
  | In =>
    exact (in_gives _ _ _ _ _ hA e ha hb).1
  | NotIn =>
    refine xa_1_2 (Option.map_eq_some_iff.mp e) fun r' e' rq0 => ?_
    subst rq0
    exact (in_gives _ _ _ _ _ hA e' ha hb).2
theorem truthy_gives {b : Bool} {v : Value} (h : Is c V (.bool b) v) : GivesR c A V (truthy v) fun _ r => r = b := by
  obtain rfl : v = .bool b := h
  exact fun s E Q hV hQ => wpAny_truthy_bool (hQ b V s.heap s.toks (VLe.refl V) hV rfl)
theorem not_gives {b : Bool} {v : Value} (h : Is c V (.bool b) v) : Gives c A V (unaryOp .Not v) (.bool (!b)) := by
  obtain rfl : v = .bool b := h
  exact fun s E Q hV hQ => not_value (wpAny_truthy_bool (tok_mono hV hQ rfl))
theorem neg_gives {a : Int} {v : Value} (h : Is c V (.int a) v) : Gives c A V (unaryOp .USub v) (.int (-a)) := by
  obtain ⟨t, rfl⟩ := h
  exact fun s E Q hV hQ => neg_int (hQ _ V _ _ (VLe.refl V) hV ⟨_, rfl⟩)
end
end Mine
end
section
open PySem PySem.W PySem.Calls PyProof.Rows PySem.Spec PySem.SeqAt
set_option genInjectivity false
set_option tactic.hygienic false
namespace Mine
theorem bt {a b : Bool} (h : (a && b) = true) : a = true ∧ b = true := Bool.and_eq_true_iff.mp h
theorem bn {a : Bool} (h : (!a) = true) : a = false := by cases a <;> first | rfl | cases h
noncomputable def vConst (x : Expr) (k : Const → Nat → Pos → Bool) : Bool := if h : x.ctorIdx = 19 then Expr.Constant.elim (motive_1 := fun _ => Bool) x h k else false
theorem vConst_inv {x : Expr} {k : Const → Nat → Pos → Bool} (h : vConst x k = true) : ∃ a b c, x = .Constant a b c ∧ k a b c = true := by
  unfold vConst at h
  split at h
  · rename_i e
    exact Expr.Constant.elim (motive_1 := fun x => ∀ (e : x.ctorIdx = 19), Expr.Constant.elim (motive_1 := fun _ => Bool) x e k = true → ∃ a b c, x = .Constant a b c ∧ k a b c = true) x e (fun a b c _ h => ⟨a, b, c, rfl, h⟩) e h
  · cases h
theorem vConst_el {x : Expr} {k : Const → Nat → Pos → Bool} {C : Prop} (h : vConst x k = true) (f : ∀ a b c, x = .Constant a b c → k a b c = true → C) : C :=
  ((vConst_inv h).elim fun a h => h.elim fun b h => h.elim fun c h => f a b c h.1 h.2)
noncomputable def vName (x : Expr) (k : Str → Pos → Bool) : Bool := if h : x.ctorIdx = 23 then Expr.Name.elim (motive_1 := fun _ => Bool) x h k else false
theorem vName_inv {x : Expr} {k : Str → Pos → Bool} (h : vName x k = true) : ∃ a b, x = .Name a b ∧ k a b = true := by
  unfold vName at h
  split at h
  · rename_i e
    exact Expr.Name.elim (motive_1 := fun x => ∀ (e : x.ctorIdx = 23), Expr.Name.elim (motive_1 := fun _ => Bool) x e k = true → ∃ a b, x = .Name a b ∧ k a b = true) x e (fun a b _ h => ⟨a, b, rfl, h⟩) e h
  · cases h
theorem vName_el {x : Expr} {k : Str → Pos → Bool} {C : Prop} (h : vName x k = true) (f : ∀ a b, x = .Name a b → k a b = true → C) : C :=
  ((vName_inv h).elim fun a h => h.elim fun b h => f a b h.1 h.2)
noncomputable def vAttr (x : Expr) (k : Expr → Str → Pos → Bool) : Bool := if h : x.ctorIdx = 20 then Expr.Attribute.elim (motive_1 := fun _ => Bool) x h k else false
theorem vAttr_inv {x : Expr} {k : Expr → Str → Pos → Bool} (h : vAttr x k = true) : ∃ a b c, x = .Attribute a b c ∧ k a b c = true := by
  unfold vAttr at h
  split at h
  · rename_i e
    exact Expr.Attribute.elim (motive_1 := fun x => ∀ (e : x.ctorIdx = 20), Expr.Attribute.elim (motive_1 := fun _ => Bool) x e k = true → ∃ a b c, x = .Attribute a b c ∧ k a b c = true) x e (fun a b c _ h => ⟨a, b, c, rfl, h⟩) e h
  · cases h
theorem vAttr_el {x : Expr} {k : Expr → Str → Pos → Bool} {C : Prop} (h : vAttr x k = true) (f : ∀ a b c, x = .Attribute a b c → k a b c = true → C) : C :=
  ((vAttr_inv h).elim fun a h => h.elim fun b h => h.elim fun c h => f a b c h.1 h.2)
noncomputable def vSub (x : Expr) (k : Expr → Expr → Pos → Bool) : Bool := if h : x.ctorIdx = 21 then Expr.Subscript.elim (motive_1 := fun _ => Bool) x h k else false
theorem vSub_inv {x : Expr} {k : Expr → Expr → Pos → Bool} (h : vSub x k = true) : ∃ a b c, x = .Subscript a b c ∧ k a b c = true := by
  unfold vSub at h
  split at h
  · rename_i e
    exact Expr.Subscript.elim (motive_1 := fun x => ∀ (e : x.ctorIdx = 21), Expr.Subscript.elim (motive_1 := fun _ => Bool) x e k = true → ∃ a b c, x = .Subscript a b c ∧ k a b c = true) x e (fun a b c _ h => ⟨a, b, c, rfl, h⟩) e h
  · cases h
theorem vSub_el {x : Expr} {k : Expr → Expr → Pos → Bool} {C : Prop} (h : vSub x k = true) (f : ∀ a b c, x = .Subscript a b c → k a b c = true → C) : C :=
  ((vSub_inv h).elim fun a h => h.elim fun b h => h.elim fun c h => f a b c h.1 h.2)
noncomputable def vSlice (x : Expr) (k : (Option Expr) → (Option Expr) → (Option Expr) → Pos → Bool) : Bool := if h : x.ctorIdx = 26 then Expr.Slice.elim (motive_1 := fun _ => Bool) x h k else false
theorem vSlice_inv {x : Expr} {k : (Option Expr) → (Option Expr) → (Option Expr) → Pos → Bool} (h : vSlice x k = true) : ∃ a b c d, x = .Slice a b c d ∧ k a b c d = true := by
  unfold vSlice at h
  split at h
  · rename_i e
    exact Expr.Slice.elim (motive_1 := fun x => ∀ (e : x.ctorIdx = 26), Expr.Slice.elim (motive_1 := fun _ => Bool) x e k = true → ∃ a b c d, x = .Slice a b c d ∧ k a b c d = true) x e (fun a b c d _ h => ⟨a, b, c, d, rfl, h⟩) e h
  · cases h
theorem vSlice_el {x : Expr} {k : (Option Expr) → (Option Expr) → (Option Expr) → Pos → Bool} {C : Prop} (h : vSlice x k = true) (f : ∀ a b c d, x = .Slice a b c d → k a b c d = true → C) : C :=
  ((vSlice_inv h).elim fun a h => h.elim fun b h => h.elim fun c h => h.elim fun d h => f a b c d h.1 h.2)
noncomputable def vBin (x : Expr) (k : Expr → Operator → Expr → Pos → Bool) : Bool := if h : x.ctorIdx = 2 then Expr.BinOp.elim (motive_1 := fun _ => Bool) x h k else false
theorem vBin_inv {x : Expr} {k : Expr → Operator → Expr → Pos → Bool} (h : vBin x k = true) : ∃ a b c d, x = .BinOp a b c d ∧ k a b c d = true := by
  unfold vBin at h
  split at h
  · rename_i e
    exact Expr.BinOp.elim (motive_1 := fun x => ∀ (e : x.ctorIdx = 2), Expr.BinOp.elim (motive_1 := fun _ => Bool) x e k = true → ∃ a b c d, x = .BinOp a b c d ∧ k a b c d = true) x e (fun a b c d _ h => ⟨a, b, c, d, rfl, h⟩) e h
  · cases h
theorem vBin_el {x : Expr} {k : Expr → Operator → Expr → Pos → Bool} {C : Prop} (h : vBin x k = true) (f : ∀ a b c d, x = .BinOp a b c d → k a b c d = true → C) : C :=
  ((vBin_inv h).elim fun a h => h.elim fun b h => h.elim fun c h => h.elim fun d h => f a b c d h.1 h.2)
noncomputable def vCmp (x : Expr) (k : Expr → (List CmpOp) → (List Expr) → Pos → Bool) : Bool := if h : x.ctorIdx = 15 then Expr.Compare.elim (motive_1 := fun _ => Bool) x h k else false
theorem vCmp_inv {x : Expr} {k : Expr → (List CmpOp) → (List Expr) → Pos → Bool} (h : vCmp x k = true) : ∃ a b c d, x = .Compare a b c d ∧ k a b c d = true := by
  unfold vCmp at h
  split at h
  · rename_i e
    exact Expr.Compare.elim (motive_1 := fun x => ∀ (e : x.ctorIdx = 15), Expr.Compare.elim (motive_1 := fun _ => Bool) x e k = true → ∃ a b c d, x = .Compare a b c d ∧ k a b c d = true) x e (fun a b c d _ h => ⟨a, b, c, d, rfl, h⟩) e h
  · cases h
theorem vCmp_el {x : Expr} {k : Expr → (List CmpOp) → (List Expr) → Pos → Bool} {C : Prop} (h : vCmp x k = true) (f : ∀ a b c d, x = .Compare a b c d → k a b c d = true → C) : C :=
  ((vCmp_inv h).elim fun a h => h.elim fun b h => h.elim fun c h => h.elim fun d h => f a b c d h.1 h.2)
noncomputable def vBop (x : Expr) (k : BoolOp → (List Expr) → Pos → Bool) : Bool := if h : x.ctorIdx = 0 then Expr.BoolOp.elim (motive_1 := fun _ => Bool) x h k else false
theorem vBop_inv {x : Expr} {k : BoolOp → (List Expr) → Pos → Bool} (h : vBop x k = true) : ∃ a b c, x = .BoolOp a b c ∧ k a b c = true := by
  unfold vBop at h
  split at h
  · rename_i e
    exact Expr.BoolOp.elim (motive_1 := fun x => ∀ (e : x.ctorIdx = 0), Expr.BoolOp.elim (motive_1 := fun _ => Bool) x e k = true → ∃ a b c, x = .BoolOp a b c ∧ k a b c = true) x e (fun a b c _ h => ⟨a, b, c, rfl, h⟩) e h
  · cases h
theorem vBop_el {x : Expr} {k : BoolOp → (List Expr) → Pos → Bool} {C : Prop} (h : vBop x k = true) (f : ∀ a b c, x = .BoolOp a b c → k a b c = true → C) : C :=
  ((vBop_inv h).elim fun a h => h.elim fun b h => h.elim fun c h => f a b c h.1 h.2)
noncomputable def vUn (x : Expr) (k : UnaryOp → Expr → Pos → Bool) : Bool := if h : x.ctorIdx = 3 then Expr.UnaryOp.elim (motive_1 := fun _ => Bool) x h k else false
theorem vUn_inv {x : Expr} {k : UnaryOp → Expr → Pos → Bool} (h : vUn x k = true) : ∃ a b c, x = .UnaryOp a b c ∧ k a b c = true := by
  unfold vUn at h
  split at h
  · rename_i e
    exact Expr.UnaryOp.elim (motive_1 := fun x => ∀ (e : x.ctorIdx = 3), Expr.UnaryOp.elim (motive_1 := fun _ => Bool) x e k = true → ∃ a b c, x = .UnaryOp a b c ∧ k a b c = true) x e (fun a b c _ h => ⟨a, b, c, rfl, h⟩) e h
  · cases h
theorem vUn_el {x : Expr} {k : UnaryOp → Expr → Pos → Bool} {C : Prop} (h : vUn x k = true) (f : ∀ a b c, x = .UnaryOp a b c → k a b c = true → C) : C :=
  ((vUn_inv h).elim fun a h => h.elim fun b h => h.elim fun c h => f a b c h.1 h.2)
noncomputable def vIte (x : Expr) (k : Expr → Expr → Expr → Pos → Bool) : Bool := if h : x.ctorIdx = 5 then Expr.IfExp.elim (motive_1 := fun _ => Bool) x h k else false
theorem vIte_inv {x : Expr} {k : Expr → Expr → Expr → Pos → Bool} (h : vIte x k = true) : ∃ a b c d, x = .IfExp a b c d ∧ k a b c d = true := by
  unfold vIte at h
  split at h
  · rename_i e
    exact Expr.IfExp.elim (motive_1 := fun x => ∀ (e : x.ctorIdx = 5), Expr.IfExp.elim (motive_1 := fun _ => Bool) x e k = true → ∃ a b c d, x = .IfExp a b c d ∧ k a b c d = true) x e (fun a b c d _ h => ⟨a, b, c, d, rfl, h⟩) e h
  · cases h
theorem vIte_el {x : Expr} {k : Expr → Expr → Expr → Pos → Bool} {C : Prop} (h : vIte x k = true) (f : ∀ a b c d, x = .IfExp a b c d → k a b c d = true → C) : C :=
  ((vIte_inv h).elim fun a h => h.elim fun b h => h.elim fun c h => h.elim fun d h => f a b c d h.1 h.2)
noncomputable def vLst (x : Expr) (k : (List Expr) → Pos → Bool) : Bool := if h : x.ctorIdx = 24 then Expr.List.elim (motive_1 := fun _ => Bool) x h k else false
theorem vLst_inv {x : Expr} {k : (List Expr) → Pos → Bool} (h : vLst x k = true) : ∃ a b, x = .List a b ∧ k a b = true := by
  unfold vLst at h
  split at h
  · rename_i e
    exact Expr.List.elim (motive_1 := fun x => ∀ (e : x.ctorIdx = 24), Expr.List.elim (motive_1 := fun _ => Bool) x e k = true → ∃ a b, x = .List a b ∧ k a b = true) x e (fun a b _ h => ⟨a, b, rfl, h⟩) e h
  · cases h
theorem vLst_el {x : Expr} {k : (List Expr) → Pos → Bool} {C : Prop} (h : vLst x k = true) (f : ∀ a b, x = .List a b → k a b = true → C) : C :=
  ((vLst_inv h).elim fun a h => h.elim fun b h => f a b h.1 h.2)
noncomputable def vTup (x : Expr) (k : (List Expr) → Nat → Pos → Bool) : Bool := if h : x.ctorIdx = 25 then Expr.Tuple.elim (motive_1 := fun _ => Bool) x h k else false
theorem vTup_inv {x : Expr} {k : (List Expr) → Nat → Pos → Bool} (h : vTup x k = true) : ∃ a b c, x = .Tuple a b c ∧ k a b c = true := by
  unfold vTup at h
  split at h
  · rename_i e
    exact Expr.Tuple.elim (motive_1 := fun x => ∀ (e : x.ctorIdx = 25), Expr.Tuple.elim (motive_1 := fun _ => Bool) x e k = true → ∃ a b c, x = .Tuple a b c ∧ k a b c = true) x e (fun a b c _ h => ⟨a, b, c, rfl, h⟩) e h
  · cases h
theorem vTup_el {x : Expr} {k : (List Expr) → Nat → Pos → Bool} {C : Prop} (h : vTup x k = true) (f : ∀ a b c, x = .Tuple a b c → k a b c = true → C) : C :=
  ((vTup_inv h).elim fun a h => h.elim fun b h => h.elim fun c h => f a b c h.1 h.2)
noncomputable def vDct (x : Expr) (k : (List (Option Expr)) → (List Expr) → Pos → Bool) : Bool := if h : x.ctorIdx = 6 then Expr.Dict.elim (motive_1 := fun _ => Bool) x h k else false
theorem vDct_inv {x : Expr} {k : (List (Option Expr)) → (List Expr) → Pos → Bool} (h : vDct x k = true) : ∃ a b c, x = .Dict a b c ∧ k a b c = true := by
  unfold vDct at h
  split at h
  · rename_i e
    exact Expr.Dict.elim (motive_1 := fun x => ∀ (e : x.ctorIdx = 6), Expr.Dict.elim (motive_1 := fun _ => Bool) x e k = true → ∃ a b c, x = .Dict a b c ∧ k a b c = true) x e (fun a b c _ h => ⟨a, b, c, rfl, h⟩) e h
  · cases h
theorem vDct_el {x : Expr} {k : (List (Option Expr)) → (List Expr) → Pos → Bool} {C : Prop} (h : vDct x k = true) (f : ∀ a b c, x = .Dict a b c → k a b c = true → C) : C :=
  ((vDct_inv h).elim fun a h => h.elim fun b h => h.elim fun c h => f a b c h.1 h.2)
noncomputable def vLc (x : Expr) (k : Expr → (List Comprehension) → Scope → Pos → Bool) : Bool := if h : x.ctorIdx = 8 then Expr.ListComp.elim (motive_1 := fun _ => Bool) x h k else false
theorem vLc_inv {x : Expr} {k : Expr → (List Comprehension) → Scope → Pos → Bool} (h : vLc x k = true) : ∃ a b c d, x = .ListComp a b c d ∧ k a b c d = true := by
  unfold vLc at h
  split at h
  · rename_i e
    exact Expr.ListComp.elim (motive_1 := fun x => ∀ (e : x.ctorIdx = 8), Expr.ListComp.elim (motive_1 := fun _ => Bool) x e k = true → ∃ a b c d, x = .ListComp a b c d ∧ k a b c d = true) x e (fun a b c d _ h => ⟨a, b, c, d, rfl, h⟩) e h
  · cases h
theorem vLc_el {x : Expr} {k : Expr → (List Comprehension) → Scope → Pos → Bool} {C : Prop} (h : vLc x k = true) (f : ∀ a b c d, x = .ListComp a b c d → k a b c d = true → C) : C :=
  ((vLc_inv h).elim fun a h => h.elim fun b h => h.elim fun c h => h.elim fun d h => f a b c d h.1 h.2)
noncomputable def vCall (x : Expr) (k : Expr → (List Expr) → (List Keyword) → Pos → Bool) : Bool := if h : x.ctorIdx = 16 then Expr.Call.elim (motive_1 := fun _ => Bool) x h k else false
theorem vCall_inv {x : Expr} {k : Expr → (List Expr) → (List Keyword) → Pos → Bool} (h : vCall x k = true) : ∃ a b c d, x = .Call a b c d ∧ k a b c d = true := by
  unfold vCall at h
  split at h
  · rename_i e
    exact Expr.Call.elim (motive_1 := fun x => ∀ (e : x.ctorIdx = 16), Expr.Call.elim (motive_1 := fun _ => Bool) x e k = true → ∃ a b c d, x = .Call a b c d ∧ k a b c d = true) x e (fun a b c d _ h => ⟨a, b, c, d, rfl, h⟩) e h
  · cases h
theorem vCall_el {x : Expr} {k : Expr → (List Expr) → (List Keyword) → Pos → Bool} {C : Prop} (h : vCall x k = true) (f : ∀ a b c d, x = .Call a b c d → k a b c d = true → C) : C :=
  ((vCall_inv h).elim fun a h => h.elim fun b h => h.elim fun c h => h.elim fun d h => f a b c d h.1 h.2)
noncomputable def vJoin (x : Expr) (k : (List Expr) → Pos → Bool) : Bool := if h : x.ctorIdx = 18 then Expr.JoinedStr.elim (motive_1 := fun _ => Bool) x h k else false
theorem vJoin_inv {x : Expr} {k : (List Expr) → Pos → Bool} (h : vJoin x k = true) : ∃ a b, x = .JoinedStr a b ∧ k a b = true := by
  unfold vJoin at h
  split at h
  · rename_i e
    exact Expr.JoinedStr.elim (motive_1 := fun x => ∀ (e : x.ctorIdx = 18), Expr.JoinedStr.elim (motive_1 := fun _ => Bool) x e k = true → ∃ a b, x = .JoinedStr a b ∧ k a b = true) x e (fun a b _ h => ⟨a, b, rfl, h⟩) e h
  · cases h
theorem vJoin_el {x : Expr} {k : (List Expr) → Pos → Bool} {C : Prop} (h : vJoin x k = true) (f : ∀ a b, x = .JoinedStr a b → k a b = true → C) : C :=
  ((vJoin_inv h).elim fun a h => h.elim fun b h => f a b h.1 h.2)
noncomputable def vFmt (x : Expr) (k : Expr → Int → (Option Expr) → Pos → Bool) : Bool := if h : x.ctorIdx = 17 then Expr.FormattedValue.elim (motive_1 := fun _ => Bool) x h k else false
theorem vFmt_inv {x : Expr} {k : Expr → Int → (Option Expr) → Pos → Bool} (h : vFmt x k = true) : ∃ a b c d, x = .FormattedValue a b c d ∧ k a b c d = true := by
  unfold vFmt at h
  split at h
  · rename_i e
    exact Expr.FormattedValue.elim (motive_1 := fun x => ∀ (e : x.ctorIdx = 17), Expr.FormattedValue.elim (motive_1 := fun _ => Bool) x e k = true → ∃ a b c d, x = .FormattedValue a b c d ∧ k a b c d = true) x e (fun a b c d _ h => ⟨a, b, c, d, rfl, h⟩) e h
  · cases h
theorem vFmt_el {x : Expr} {k : Expr → Int → (Option Expr) → Pos → Bool} {C : Prop} (h : vFmt x k = true) (f : ∀ a b c d, x = .FormattedValue a b c d → k a b c d = true → C) : C :=
  ((vFmt_inv h).elim fun a h => h.elim fun b h => h.elim fun c h => h.elim fun d h => f a b c d h.1 h.2)
noncomputable def wAsg (x : Stmt) (k : (List Expr) → Expr → Pos → Bool) : Bool := if h : x.ctorIdx = 5 then Stmt.Assign.elim (motive_2 := fun _ => Bool) x h k else false
theorem wAsg_inv {x : Stmt} {k : (List Expr) → Expr → Pos → Bool} (h : wAsg x k = true) : ∃ a b c, x = .Assign a b c ∧ k a b c = true := by
  unfold wAsg at h
  split at h
  · rename_i e
    exact Stmt.Assign.elim (motive_2 := fun x => ∀ (e : x.ctorIdx = 5), Stmt.Assign.elim (motive_2 := fun _ => Bool) x e k = true → ∃ a b c, x = .Assign a b c ∧ k a b c = true) x e (fun a b c _ h => ⟨a, b, c, rfl, h⟩) e h
  · cases h
theorem wAsg_el {x : Stmt} {k : (List Expr) → Expr → Pos → Bool} {C : Prop} (h : wAsg x k = true) (f : ∀ a b c, x = .Assign a b c → k a b c = true → C) : C :=
  ((wAsg_inv h).elim fun a h => h.elim fun b h => h.elim fun c h => f a b c h.1 h.2)
noncomputable def wAug (x : Stmt) (k : Expr → Operator → Expr → Pos → Bool) : Bool := if h : x.ctorIdx = 7 then Stmt.AugAssign.elim (motive_2 := fun _ => Bool) x h k else false
theorem wAug_inv {x : Stmt} {k : Expr → Operator → Expr → Pos → Bool} (h : wAug x k = true) : ∃ a b c d, x = .AugAssign a b c d ∧ k a b c d = true := by
  unfold wAug at h
  split at h
  · rename_i e
    exact Stmt.AugAssign.elim (motive_2 := fun x => ∀ (e : x.ctorIdx = 7), Stmt.AugAssign.elim (motive_2 := fun _ => Bool) x e k = true → ∃ a b c d, x = .AugAssign a b c d ∧ k a b c d = true) x e (fun a b c d _ h => ⟨a, b, c, d, rfl, h⟩) e h
  · cases h
theorem wAug_el {x : Stmt} {k : Expr → Operator → Expr → Pos → Bool} {C : Prop} (h : wAug x k = true) (f : ∀ a b c d, x = .AugAssign a b c d → k a b c d = true → C) : C :=
  ((wAug_inv h).elim fun a h => h.elim fun b h => h.elim fun c h => h.elim fun d h => f a b c d h.1 h.2)
noncomputable def wRet (x : Stmt) (k : (Option Expr) → Pos → Bool) : Bool := if h : x.ctorIdx = 3 then Stmt.Return.elim (motive_2 := fun _ => Bool) x h k else false
theorem wRet_inv {x : Stmt} {k : (Option Expr) → Pos → Bool} (h : wRet x k = true) : ∃ a b, x = .Return a b ∧ k a b = true := by
  unfold wRet at h
  split at h
  · rename_i e
    exact Stmt.Return.elim (motive_2 := fun x => ∀ (e : x.ctorIdx = 3), Stmt.Return.elim (motive_2 := fun _ => Bool) x e k = true → ∃ a b, x = .Return a b ∧ k a b = true) x e (fun a b _ h => ⟨a, b, rfl, h⟩) e h
  · cases h
theorem wRet_el {x : Stmt} {k : (Option Expr) → Pos → Bool} {C : Prop} (h : wRet x k = true) (f : ∀ a b, x = .Return a b → k a b = true → C) : C :=
  ((wRet_inv h).elim fun a h => h.elim fun b h => f a b h.1 h.2)
noncomputable def wEx (x : Stmt) (k : Expr → Pos → Bool) : Bool := if h : x.ctorIdx = 24 then Stmt.Expr.elim (motive_2 := fun _ => Bool) x h k else false
theorem wEx_inv {x : Stmt} {k : Expr → Pos → Bool} (h : wEx x k = true) : ∃ a b, x = .Expr a b ∧ k a b = true := by
  unfold wEx at h
  split at h
  · rename_i e
    exact Stmt.Expr.elim (motive_2 := fun x => ∀ (e : x.ctorIdx = 24), Stmt.Expr.elim (motive_2 := fun _ => Bool) x e k = true → ∃ a b, x = .Expr a b ∧ k a b = true) x e (fun a b _ h => ⟨a, b, rfl, h⟩) e h
  · cases h
theorem wEx_el {x : Stmt} {k : Expr → Pos → Bool} {C : Prop} (h : wEx x k = true) (f : ∀ a b, x = .Expr a b → k a b = true → C) : C :=
  ((wEx_inv h).elim fun a h => h.elim fun b h => f a b h.1 h.2)
noncomputable def wFor (x : Stmt) (k : Expr → Expr → (List Stmt) → (List Stmt) → Pos → Bool) : Bool := if h : x.ctorIdx = 9 then Stmt.For.elim (motive_2 := fun _ => Bool) x h k else false
theorem wFor_inv {x : Stmt} {k : Expr → Expr → (List Stmt) → (List Stmt) → Pos → Bool} (h : wFor x k = true) : ∃ a b c d e, x = .For a b c d e ∧ k a b c d e = true := by
  unfold wFor at h
  split at h
  · rename_i e
    exact Stmt.For.elim (motive_2 := fun x => ∀ (e : x.ctorIdx = 9), Stmt.For.elim (motive_2 := fun _ => Bool) x e k = true → ∃ a b c d e, x = .For a b c d e ∧ k a b c d e = true) x e (fun a b c d e _ h => ⟨a, b, c, d, e, rfl, h⟩) e h
  · cases h
theorem wFor_el {x : Stmt} {k : Expr → Expr → (List Stmt) → (List Stmt) → Pos → Bool} {C : Prop} (h : wFor x k = true) (f : ∀ a b c d e, x = .For a b c d e → k a b c d e = true → C) : C :=
  ((wFor_inv h).elim fun a h => h.elim fun b h => h.elim fun c h => h.elim fun d h => h.elim fun e h => f a b c d e h.1 h.2)
noncomputable def wWhl (x : Stmt) (k : Expr → (List Stmt) → (List Stmt) → Pos → Bool) : Bool := if h : x.ctorIdx = 11 then Stmt.While.elim (motive_2 := fun _ => Bool) x h k else false
theorem wWhl_inv {x : Stmt} {k : Expr → (List Stmt) → (List Stmt) → Pos → Bool} (h : wWhl x k = true) : ∃ a b c d, x = .While a b c d ∧ k a b c d = true := by
  unfold wWhl at h
  split at h
  · rename_i e
    exact Stmt.While.elim (motive_2 := fun x => ∀ (e : x.ctorIdx = 11), Stmt.While.elim (motive_2 := fun _ => Bool) x e k = true → ∃ a b c d, x = .While a b c d ∧ k a b c d = true) x e (fun a b c d _ h => ⟨a, b, c, d, rfl, h⟩) e h
  · cases h
theorem wWhl_el {x : Stmt} {k : Expr → (List Stmt) → (List Stmt) → Pos → Bool} {C : Prop} (h : wWhl x k = true) (f : ∀ a b c d, x = .While a b c d → k a b c d = true → C) : C :=
  ((wWhl_inv h).elim fun a h => h.elim fun b h => h.elim fun c h => h.elim fun d h => f a b c d h.1 h.2)
noncomputable def wIf (x : Stmt) (k : Expr → (List Stmt) → (List Stmt) → Pos → Bool) : Bool := if h : x.ctorIdx = 12 then Stmt.If.elim (motive_2 := fun _ => Bool) x h k else false
theorem wIf_inv {x : Stmt} {k : Expr → (List Stmt) → (List Stmt) → Pos → Bool} (h : wIf x k = true) : ∃ a b c d, x = .If a b c d ∧ k a b c d = true := by
  unfold wIf at h
  split at h
  · rename_i e
    exact Stmt.If.elim (motive_2 := fun x => ∀ (e : x.ctorIdx = 12), Stmt.If.elim (motive_2 := fun _ => Bool) x e k = true → ∃ a b c d, x = .If a b c d ∧ k a b c d = true) x e (fun a b c d _ h => ⟨a, b, c, d, rfl, h⟩) e h
  · cases h
theorem wIf_el {x : Stmt} {k : Expr → (List Stmt) → (List Stmt) → Pos → Bool} {C : Prop} (h : wIf x k = true) (f : ∀ a b c d, x = .If a b c d → k a b c d = true → C) : C :=
  ((wIf_inv h).elim fun a h => h.elim fun b h => h.elim fun c h => h.elim fun d h => f a b c d h.1 h.2)
noncomputable def one {α : Type} (l : List α) (k : α → Bool) : Bool := match l with | [a] => k a | _ => false
theorem one_inv {α : Type} {l : List α} {k : α → Bool} (h : one l k = true) : ∃ a, l = [a] ∧ k a = true := by
  cases l with
  | nil => cases h
  | cons a r => cases r with
    | nil => exact ⟨a, rfl, h⟩
    | cons _ _ => cases h
noncomputable def cns {α : Type} (l : List α) (k : α → List α → Bool) : Bool := match l with | a :: r => k a r | [] => false
theorem cns_inv {α : Type} {l : List α} {k : α → List α → Bool} (h : cns l k = true) : ∃ a r, l = a :: r ∧ k a r = true := by
  cases l with
  | nil => cases h
  | cons a r => exact ⟨a, r, rfl, h⟩
theorem one_el {α : Type} {l : List α} {k : α → Bool} {C : Prop} (h : one l k = true) (f : ∀ a, l = [a] → k a = true → C) : C := (one_inv h).elim fun a h => f a h.1 h.2
theorem cns_el {α : Type} {l : List α} {k : α → List α → Bool} {C : Prop} (h : cns l k = true) (f : ∀ a r, l = a :: r → k a r = true → C) : C := (cns_inv h).elim fun a h => h.elim fun r h => f a r h.1 h.2
theorem emp {α : Type} {l : List α} (h : l.isEmpty = true) : l = [] := List.isEmpty_iff.mp h
end Mine
end
section
open PySem PySem.W PySem.Calls PyProof.Rows PySem.Spec PySem.SeqAt
set_option genInjectivity false
set_option tactic.hygienic false
namespace Mine
section
variable {c : Cfg} {A : Around} {V : View} {n : Nat}
noncomputable def seqT (l : List T) (k : Int) : Option T :=
  if smallI k then (if 0 ≤ k then l[k.toNat]? else if -(l.length : Int) ≤ k then l[(k + l.length).toNat]? else none) else none
noncomputable def tidx (o i : T) : Option T := match o with
  | .list l => tI i fun k => seqT l k
  | .tup l => tI i fun k => seqT l k
  | .dict ks ts => tS i fun k => dlook ks ts k
  | _ => none
theorem seqT_val {l : List T} {vs : List Value} {k : Int} {t : T} (e : seqT l k = some t) (h : IsL c V l vs) :
    ∃ j v, seqIndex? k vs.length = some j ∧ vs[j]? = some v ∧ Is c V t v ∧ -(2 ^ 63) ≤ k ∧ k < 2 ^ 63 ∧ ((0 ≤ k ∧ j = k.toNat) ∨ (k < 0 ∧ -(vs.length : Int) ≤ k ∧ j = (k + vs.length).toNat)) := by
  unfold seqT at e
  split at e
  · rename_i hs
    have b := smallI_bits hs
    have hlen := h.length
    split at e
    · rename_i h0
      refine xa_1_2 (h.get _ _ e) fun v q1 q2 => ?_
      have hlt : k.toNat < vs.length := (List.getElem?_eq_some_iff.mp q1).1
      exact ⟨_, v, PySem.seqIndex_of h0 (by omega), q1, q2, by omega, by omega, .inl ⟨h0, rfl⟩⟩
    · rename_i h0
      split at e
      · rename_i h1
        refine xa_1_2 (h.get _ _ e) fun v q1 q2 => ?_
        exact ⟨_, v, PySem.seqIndex_neg (by omega) (by omega), by rw [hlen]; exact q1, q2, by omega, by omega, .inr ⟨by omega, by omega, rfl⟩⟩
      · exact none_el e
  · exact none_el e
set_option tactic.hygienic true in
theorem item_gives (value slice : Expr) (o i r : T) (vo vi : Value) (e : tidx o i = some r) (ho : IsR c V o vo) (hi : IsR c V i vi)
    (hs : ∀ a b, subscripted slice false a b = operate [a, b] (getItem a b)) : Gives c A V (subscriptTail value slice vo vi) r := by
  cases o with
  | list l =>
    refine tI_el e fun k q e => ?_
    subst q
    obtain ⟨u, rfl⟩ := hi.is (by intro _ h; cases h)
    refine Classical.byContradiction fun hCC => ?_
    refine xa_3_3 (ho.lst) fun a vs j rq0 hv hl => ?_
    subst rq0
    refine xa_2_6 (seqT_val e hl) fun j v q1 q2 q3 q4 q5 q6 => ?_
    refine hCC ?_
    clear hCC
    intro s E Q hV hQ
    have hL := isList_of (hv _ hV.on)
    refine tail_any hL.typeIs PySem.slot_list_getitem.lookup ?_ (hs _ _)
    rcases q6 with ⟨h0, rfl⟩ | ⟨h0, h1, rfl⟩
    · exact wpAny_getItem_list hL h0 q5 (by simpa using q2) (tok_mono hV hQ q3)
    · exact wpAny_getItem_list_neg hL h0 (by simpa using h1) q4 (by simpa using q2) (tok_mono hV hQ q3)
  | tup l =>
    refine tI_el e fun k q e => ?_
    subst q
    obtain ⟨u, rfl⟩ := hi.is (by intro _ h; cases h)
    obtain ⟨a, vs, j, rfl, hv, hl⟩ := ho.is (by intro _ h; cases h)
    refine Classical.byContradiction fun hCC => ?_
    refine xa_2_6 (seqT_val e hl) fun j v q1 q2 q3 q4 q5 q6 => ?_
    refine hCC ?_
    clear hCC
    exact fun s E Q hV hQ => item_tupleT (isTup_of (hV.on.frz hv)) q4 q5 q1 q2 (tok_mono hV hQ q3) (hs _ _)
  | dict ks ts =>
    refine tS_el e fun k q e => ?_
    subst q
    obtain ⟨u, rfl⟩ := hi.is (by intro _ h; cases h)
    obtain ⟨d, es, j, rfl, hv, _, hk, hl⟩ := ho.is (by intro _ h; cases h)
    intro s E Q hV hQ
    have hm := mapOf_at (c := c) (hV.on.frz hv) hk
    have hf := hk.find hl k
    rw [show dlook ks ts k = some r from e] at hf
    split at hf
    · rename_i v q
      refine xa_1_2 (hf) fun t' q' q'' => ?_
      try clear hf
      (refine some_el q' fun qq => ?_; subst qq; clear q')
      exact tail_any hm.typeIs PySem.slot_dict_getitem.lookup (wpAny_getItem_of (strKind_is c.prog c.w k u) hm q (hQ _ V s.heap _ (VLe.refl V) hV q'')) (hs _ _)
    · cases hf
  | _ => exact none_el e
noncomputable def clipT (v : Option Int) (n d : Nat) : Nat := match v with
  | none => d
  | some x => if x < 0 then n - (-x).toNat else min x.toNat n
noncomputable def tslice (l : List T) (lo hi : Option Int) : List T := (l.drop (clipT lo l.length 0)).take (clipT hi l.length l.length - clipT lo l.length 0)
theorem slice_is {l : List T} {vs : List Value} (h : IsL c V l vs) (lo hi : Option Int) : IsL c V (tslice l lo hi) (kms_pick vs lo hi) := by
  have hlen := h.length
  have e1 : kms_lo lo vs.length = clipT lo l.length 0 := by rw [hlen]; cases lo <;> rfl
  have e2 : kms_hi hi vs.length = clipT hi l.length l.length := by rw [hlen]; cases hi <;> rfl
  unfold kms_pick tslice
  rw [e1, e2]
  exact (h.drop _).take _
noncomputable def tattr : T → Str → Option T
  | .vec k i a, n => if n = "kind" then some k else if n = "items" then some i else if n = "attrs" then some a else none
  | _, _ => none
structure VecOk (c : Cfg) : Prop where
  pg : ∀ n ∈ ([("kind" : Str), "items", "attrs"] : List Str), plainGet c.K c.VC n = true
  hd : hasDictIn c.K c.VC = true
  fi : ∀ n ∈ ([("kind" : Str), "items", "attrs", "shared", "loose"] : List Str), findIn c.K (.ref c.VC) n = some none
  sa : findIn c.K (.ref c.VC) "__setattr__" = some (some (.builtin "object.__setattr__"))
  po : plainOver c.K c.VC = true
  tk : ∀ n ∈ ([("kind" : Str), "items", "attrs", "shared", "loose"] : List Str), takerIn c.K c.VC n = some none
  mks : makesIn c.K c.VC = true
  ini : findIn c.K (.ref c.VC) "__init__" = some (some (.ref c.ini))
  fn : isFn c.K (.ref c.ini) = true
theorem instAt_of {h : Heap} {x dx : Addr} {kv iv av : Value} (H : On V h) (h1 : V x = some (.frz (instObj c.VC dx))) (h2 : V dx = some (.vec kv iv av)) :
    ∃ es k, InstAt h x (instObj c.VC dx) c.VC (some (dictOf es k)) ∧ getL "kind" es = some (some kv) ∧ getL "items" es = some (some iv) ∧ getL "attrs" es = some (some av) ∧ (∃ b, getL "shared" es = some (some (.bool b))) ∧ es.length = 5 := by
  refine Classical.byContradiction fun hCC => ?_
  obtain ⟨o, ho, es, k, rq0, e⟩ := H dx _ h2
  subst rq0
  refine hCC ?_
  clear hCC
  exact ⟨es, k, ⟨H.frz h1, rfl, rfl, ho⟩, e⟩
theorem handedIn_is {t : T} {v : Value} (h : Is c V t v) : handedIn v = true := by
  cases t with
  | none => rw [show v = _ from h]; rfl
  | bool b => rw [show v = _ from h]; rfl
  | int i => obtain ⟨u, rfl⟩ := h; rfl
  | str s => obtain ⟨u, rfl⟩ := h; rfl
  | tup l => obtain ⟨a, vs, k, rfl, _⟩ := h; rfl
  | list l => obtain ⟨a, vs, k, rfl, _⟩ := h; rfl
  | dict ks l => obtain ⟨a, vs, k, rfl, _⟩ := h; rfl
  | vec k i a => obtain ⟨x, _, _, _, _, rfl, _⟩ := h; rfl
  | rng x y z => obtain ⟨x, _, _, _, rfl, _⟩ := h; rfl
theorem get_vec (O : VecOk c) {x : Addr} {ox : Obj} {es : List DictEntry} {k : Nat} {nm : Str} {v : Value} {t : T} {b : Bool} (hn : nm ∈ ([("kind" : Str), "items", "attrs"] : List Str)) (hi : ∀ V', VLe V V' → Is c V' t v) {s : Shared} {E : Value → Shared → Prop} {Q : Value → Shared → Prop}
    (hV : Vw c V s.heap) (I : InstAt s.heap x ox c.VC (some (dictOf es k))) (hl : getL nm es = some (some v)) (hQ : ∀ v V' h' tk, VLe V V' → Vw c V' h' → Is c V' t v → Q v { s with heap := h', toks := tk }) :
    wpAny c.M A (getAttr (.ref x) nm b) Q E s := by
  have hf : findIn c.K (.ref c.VC) nm = some none := O.fi nm (by
    simp only [List.mem_cons, List.not_mem_nil, or_false] at hn ⊢
    rcases hn with rfl | rfl | rfl <;> simp)
  exact get_value hV.K I (plainGet_of (O.pg nm hn)).1 (findObj_own O.hd hf (by rfl) hl) (handedIn_is (hi V (VLe.refl V))) (hQ _ V s.heap _ (VLe.refl V) hV (hi V (VLe.refl V)))
theorem attr_gives (O : VecOk c) (o r : T) (nm : Str) (vo : Value) (b : Bool) (e : tattr o nm = some r) (ho : Is c V o vo) : Gives c A V (getAttr vo nm b) r := by
  unfold tattr at e
  split at e
  · obtain ⟨x, dx, kv, iv, av, rfl, h1, h2, hk, hi, ha⟩ := ho
    intro s E Q hV hQ
    refine Classical.byContradiction fun hCC => ?_
    refine xa_2_5 (instAt_of hV.on h1 h2) fun es k I g1 g2 g3 _ => ?_
    refine hCC ?_
    clear hCC
    split at e
    · rename_i hn; (refine some_el e fun qq => ?_; subst qq; clear e); subst hn
      exact get_vec O (by simp) (fun V' l => hk.mono l.toF) hV I g1 hQ
    · split at e
      · rename_i hn; (refine some_el e fun qq => ?_; subst qq; clear e); subst hn
        exact get_vec O (by simp) (fun V' l => hi.mono l.toF) hV I g2 hQ
      · split at e
        · rename_i hn; (refine some_el e fun qq => ?_; subst qq; clear e); subst hn
          exact get_vec O (by simp) (fun V' l => ha.mono l.toF) hV I g3 hQ
        · exact none_el e
  · exact none_el e
end
noncomputable def fnAt (K : Frag) (f : Addr) : Option FuncData := match K.lookup f with
  | some o => match o.data with
    | .func fd => some fd
    | _ => none
  | none => none
set_option tactic.hygienic true in
theorem fnAt_some {K : Frag} {f : Addr} {fd : FuncData} (h : fnAt K f = some fd) : ∃ o, K.lookup f = some o ∧ o.data = .func fd := by
  unfold fnAt at h
  split at h
  · rename_i o q
    split at h
    · rename_i fd' e; (refine some_el h fun qq => ?_; subst qq; clear h); exact ⟨o, q, e⟩
    · exact none_el h
  · exact none_el h
noncomputable def asgSelf (st : Stmt) (f : Str → Expr → Bool) : Bool := wAsg st fun ts v _ => one ts fun t => vAttr t fun x a _ => vName x fun s _ => s == ("self" : Str) && f a v
theorem asgSelf_inv {st : Stmt} {f : Str → Expr → Bool} (h : asgSelf st f = true) : ∃ p1 a p2 v p3, st = .Assign [.Attribute (.Name "self" p1) a p2] v p3 ∧ f a v = true :=
  wAsg_el h fun _ v p e1 h => one_el h fun _ e2 h => vAttr_el h fun _ a q e3 h => vName_el h fun _ r e4 h => ⟨r, a, q, v, p, by rw [e1, e2, e3, e4, eq_of_beq (bt h).1], (bt h).2⟩
noncomputable def isNmB (n : Str) (x : Expr) : Bool := vName x fun s _ => s == n
theorem isNmB_inv {n : Str} {x : Expr} (h : isNmB n x = true) : ∃ p, x = .Name n p := vName_el h fun _ r e h => ⟨r, by rw [e, eq_of_beq h]⟩
noncomputable def isCB (x : Expr) : Bool := vConst x fun s _ _ => match s with | .bool _ => true | _ => false
theorem isCB_inv {x : Expr} (h : isCB x = true) : ∃ b k p, x = .Constant (.bool b) k p := vConst_el h fun s k r e h => by
  subst e
  cases s with
  | bool b => exact ⟨b, k, r, rfl⟩
  | _ => exact ff_el h
noncomputable abbrev iniN (st : Stmt) (n : Str) : Bool := asgSelf st fun a v => a == n && isNmB n v
noncomputable abbrev iniC (st : Stmt) (n : Str) : Bool := asgSelf st fun a v => a == n && isCB v
noncomputable def iniBody (b : List Stmt) : Bool := cns b fun a1 b => iniN a1 "kind" && cns b fun a2 b => iniN a2 "items" && cns b fun a3 b => iniN a3 "attrs" && cns b fun a4 b => iniC a4 "shared" && one b fun a5 => iniC a5 "loose"
theorem asgN {st : Stmt} {n m : Str} (h : asgSelf st (fun a v => a == n && isNmB m v) = true) : ∃ p1 p2 p3 p4, st = .Assign [.Attribute (.Name "self" p1) n p2] (.Name m p4) p3 := by
  refine Classical.byContradiction fun hCC => ?_
  refine xa_5_2 (asgSelf_inv h) fun p1 a p2 v p3 rq0 h => ?_
  subst rq0
  have h := Bool.and_eq_true_iff.mp h
  obtain ⟨p4, rfl⟩ := isNmB_inv h.2
  refine hCC ?_
  clear hCC
  exact ⟨p1, p2, p3, p4, by rw [eq_of_beq h.1]⟩
theorem asgC {st : Stmt} {n : Str} (h : asgSelf st (fun a v => a == n && isCB v) = true) : ∃ p1 p2 p3 b k p4, st = .Assign [.Attribute (.Name "self" p1) n p2] (.Constant (.bool b) k p4) p3 := by
  refine Classical.byContradiction fun hCC => ?_
  refine xa_5_2 (asgSelf_inv h) fun p1 a p2 v p3 rq0 h => ?_
  subst rq0
  have h := Bool.and_eq_true_iff.mp h
  refine xa_3_1 (isCB_inv h.2) fun b k p4 rq0 => ?_
  subst rq0
  refine hCC ?_
  clear hCC
  exact ⟨p1, p2, p3, b, k, p4, by rw [eq_of_beq h.1]⟩
theorem iniBody_el {b : List Stmt} {C : Prop} (h : iniBody b = true) (f : ∀ a1 a2 a3 a4 a5, b = [a1, a2, a3, a4, a5] → iniN a1 "kind" = true → iniN a2 "items" = true → iniN a3 "attrs" = true → iniC a4 "shared" = true → iniC a5 "loose" = true → C) : C :=
  cns_el h fun a1 _ e1 h1 => cns_el (bt h1).2 fun a2 _ e2 h2 => cns_el (bt h2).2 fun a3 _ e3 h3 => cns_el (bt h3).2 fun a4 _ e4 h4 => one_el (bt h4).2 fun a5 e5 h5 => f a1 a2 a3 a4 a5 (by rw [e1, e2, e3, e4, e5]) (bt h1).1 (bt h2).1 (bt h3).1 (bt h4).1 h5
noncomputable abbrev iniPs : List Str := ["self", "kind", "items", "attrs"]
noncomputable def iniOk (K : Frag) (fd : FuncData) : Bool :=
  (fd.scope.kind == .function && !fd.scope.isCoroutine && !fd.scope.isGenerator && codeIn K fd.code fd.qualname && fd.scope.names.all (fun x => x.2 != .cell) && iniPs.all fun x => fd.scope.names.lookup x == some .local) &&
  (match fd.body with | .stmts b => iniBody b | _ => false)
structure IniOk (c : Cfg) : Prop where
  ex : ∃ fd, fnAt c.K c.ini = some fd ∧ iniOk c.K fd = true ∧ (∀ (s : Shared) x k i, c.K.In s.heap → BindsTo s fd ⟨[x, k, i], []⟩ (iniPs.zip [x, k, i, .none])) ∧ ∀ (s : Shared) x k i a, c.K.In s.heap → BindsTo s fd ⟨[x, k, i, a], []⟩ (iniPs.zip [x, k, i, a])
end Mine
end
section
open PySem PySem.W PySem.Calls PyProof.Rows PySem.Spec PySem.SeqAt
set_option genInjectivity false
set_option tactic.hygienic false
namespace Mine
set_option genCtorIdx true in
inductive BI where
  | len | range | list | sorted | str | int | abs | max
noncomputable def BI.val : BI → Value
  | .len => .builtin "len" | .range => .type "range" | .list => .type "list" | .sorted => .builtin "sorted" | .str => .type "str" | .int => .type "int" | .abs => .builtin "abs" | .max => .builtin "max"
noncomputable def BI.nm : BI → Str
  | .len => "len" | .range => "range" | .list => "list" | .sorted => "sorted" | .str => "str" | .int => "int" | .abs => "abs" | .max => "max"
noncomputable def midI (a : Int) : Bool := decide (a.natAbs < 2 ^ 40)
theorem midI_lt {a : Int} (h : midI a = true) : -(2 ^ 40) < a ∧ a < 2 ^ 40 := by
  have : a.natAbs < 2 ^ 40 := of_decide_eq_true h
  omega
noncomputable def rngN (a b c : Int) : Nat := if a < b then ((b - a - 1) / c + 1).toNat else 0
noncomputable def rngL (a b c : Int) : List Int := (List.range (rngN a b c)).map fun i => a + (i : Nat) * c
noncomputable def asInts : List T → Option (List Int)
  | [] => some []
  | .int i :: r => (asInts r).map (i :: ·)
  | _ :: _ => none
noncomputable def asStrs : List T → Option (List Str)
  | [] => some []
  | .str i :: r => (asStrs r).map (i :: ·)
  | _ :: _ => none
noncomputable def leI (a b : Int) : Bool := decide (a ≤ b)
noncomputable def leS (a b : Str) : Bool := !strLt b a
noncomputable def sortI (l : List Int) : List Int := l.mergeSort leI
noncomputable def sortS (l : List Str) : List Str := l.mergeSort leS
noncomputable def tsorted (l : List T) : Option T :=
  if l.length < 64 then
    match asInts l with
    | some ns => some (.list ((sortI ns).map .int))
    | none => match asStrs l with
      | some ss => some (.list ((sortS ss).map .str))
      | none => none
  else none
noncomputable def t1 (ts : List T) (f : T → Option T) : Option T := match ts with
  | [t] => f t
  | _ => none
noncomputable def t2 (ts : List T) (f : T → T → Option T) : Option T := match ts with
  | [t, u] => f t u
  | _ => none
theorem t1_el {ts : List T} {f : T → Option T} {r : T} {C : Prop} (h : t1 ts f = some r) (k : ∀ t, ts = [t] → f t = some r → C) : C := by
  cases ts with
  | nil => exact none_el h
  | cons a l => cases l with
    | nil => exact k a rfl h
    | cons _ _ => exact none_el h
theorem t2_el {ts : List T} {f : T → T → Option T} {r : T} {C : Prop} (h : t2 ts f = some r) (k : ∀ t u, ts = [t, u] → f t u = some r → C) : C := by
  cases ts with
  | nil => exact none_el h
  | cons a l => cases l with
    | nil => exact none_el h
    | cons b l => cases l with
      | nil => exact k a b rfl h
      | cons _ _ => exact none_el h
noncomputable def tlen (t : T) : Option T := match t with
  | .list l => if l.length ≤ lim then some (.int l.length) else none
  | .tup l => if l.length ≤ lim then some (.int l.length) else none
  | .str s => if s.length ≤ lim then some (.int s.length) else none
  | _ => none
noncomputable def trange (ts : List T) : Option T := match ts with
  | [] => none
  | a :: r => tI a fun n => match r with
    | [] => if midI n then some (.rng 0 n 1) else none
    | b :: r => tI b fun m => match r with
      | [] => if midI n && midI m then some (.rng n m 1) else none
      | c :: r => tI c fun k => match r with
        | [] => if midI n && midI m && (decide (0 < k) && decide (k < 1000)) then some (.rng n m k) else none
        | _ :: _ => none
noncomputable def tlist (t : T) : Option T := match t with
  | .list l => if l.length ≤ lim then some (.list l) else none
  | .rng a b k => if midI a && midI b && (decide (0 < k) && decide (k < 1000)) && decide (rngN a b k ≤ lim) then some (.list ((rngL a b k).map .int)) else none
  | _ => none
noncomputable def tsort (t : T) : Option T := match t with
  | .list l => tsorted l
  | _ => none
noncomputable def tstr (t : T) : Option T := match t with
  | .int i => if smallI i then some (.str (toString i)) else none
  | .list l => if plainT 4 (.list l) && PyData.showable (pd (.list l)) && decide ((PyData.shown (pd (.list l))).length ≤ lim) then some (.str (PyData.shown (pd (.list l)))) else none
  | _ => none
noncomputable def tcall (b : BI) (ts : List T) : Option T := match b with
  | .len => t1 ts tlen
  | .range => trange ts
  | .list => t1 ts tlist
  | .sorted => t1 ts tsort
  | .str => t1 ts tstr
  | .int => t1 ts fun t => tI t fun i => some (.int i)
  | .abs => t1 ts fun t => tI t fun i => some (.int (if i < 0 then -i else i))
  | .max => t2 ts fun t u => tI t fun a => tI u fun b => some (.int (if b > a then b else a))
noncomputable def IsRL (c : Cfg) (V : View) : List T → List Value → Prop
  | [], vs => vs = []
  | t :: ts, vs => ∃ v vs', vs = v :: vs' ∧ IsR c V t v ∧ IsRL c V ts vs'
section
variable {c : Cfg} {A : Around} {V : View} {n : Nat}
theorem asInts_is : ∀ {l : List T} {ns : List Int} {vs : List Value}, asInts l = some ns → IsL c V l vs → IntsAre vs ns
  | [], _, _, e, h => by (refine some_el e fun qq => ?_; subst qq; clear e); rw [show _ = [] from h]; exact .nil
  | .int i :: r, _, _, e, ⟨v, vs', q, ⟨t, h1⟩, h2⟩ => by
    refine xa_1_2 (Option.map_eq_some_iff.mp e) fun ns' e' rq0 => ?_
    subst rq0
    rw [q, h1]; exact .cons i t (asInts_is e' h2)
  | .none :: _, _, _, e, _ => by exact none_el e
  | .bool _ :: _, _, _, e, _ => by exact none_el e
  | .str _ :: _, _, _, e, _ => by exact none_el e
  | .tup _ :: _, _, _, e, _ => by exact none_el e
  | .list _ :: _, _, _, e, _ => by exact none_el e
  | .dict _ _ :: _, _, _, e, _ => by exact none_el e
  | .vec _ _ _ :: _, _, _, e, _ => by exact none_el e
  | .rng _ _ _ :: _, _, _, e, _ => by exact none_el e
theorem asStrs_is : ∀ {l : List T} {ns : List Str} {vs : List Value}, asStrs l = some ns → IsL c V l vs → StrsAre vs ns
  | [], _, _, e, h => by (refine some_el e fun qq => ?_; subst qq; clear e); rw [show _ = [] from h]; exact .nil
  | .str i :: r, _, _, e, ⟨v, vs', q, ⟨t, h1⟩, h2⟩ => by
    refine xa_1_2 (Option.map_eq_some_iff.mp e) fun ns' e' rq0 => ?_
    subst rq0
    rw [q, h1]; exact .cons i t (asStrs_is e' h2)
  | .none :: _, _, _, e, _ => by exact none_el e
  | .bool _ :: _, _, _, e, _ => by exact none_el e
  | .int _ :: _, _, _, e, _ => by exact none_el e
  | .tup _ :: _, _, _, e, _ => by exact none_el e
  | .list _ :: _, _, _, e, _ => by exact none_el e
  | .dict _ _ :: _, _, _, e, _ => by exact none_el e
  | .vec _ _ _ :: _, _, _, e, _ => by exact none_el e
  | .rng _ _ _ :: _, _, _, e, _ => by exact none_el e
theorem ints_is : ∀ {ns : List Int} {vs : List Value}, IntsAre vs ns → IsL c V (ns.map .int) vs
  | _, _, .nil => rfl
  | _, _, .cons i t r => ⟨_, _, rfl, ⟨t, rfl⟩, ints_is r⟩
theorem strs_is : ∀ {ns : List Str} {vs : List Value}, StrsAre vs ns → IsL c V (ns.map .str) vs
  | _, _, .nil => rfl
  | _, _, .cons i t r => ⟨_, _, rfl, ⟨t, rfl⟩, strs_is r⟩
theorem carried_is : ∀ {ns : List Int} {vs : List Value}, CarriedAll vs (ns.map .int) → IsL c V (ns.map .int) vs
  | [], _, h => by cases h; rfl
  | i :: r, _, h => by
    cases h with
    | cons h1 h2 =>
      cases h1
      exact ⟨_, _, rfl, ⟨_, rfl⟩, carried_is h2⟩
theorem sortI_eq {l l' : List Int} (hp : l'.Perm l) (hs : l'.Pairwise (· ≤ ·)) : l' = sortI l := by
  have h2 := List.pairwise_mergeSort (le := leI) (fun a b d h1 h2 => by simp only [leI, decide_eq_true_eq] at *; omega) (fun a b => by simp only [leI, Bool.or_eq_true, decide_eq_true_eq]; omega) l
  refine List.Perm.eq_of_pairwise (le := (· ≤ ·)) (fun a b _ _ h1 h2 => Int.le_antisymm h1 h2) hs (h2.imp fun h => of_decide_eq_true h) (hp.trans (List.mergeSort_perm l leI).symm)
theorem leS_iff {a b : Str} : leS a b = true ↔ a.cps.toList ≤ b.cps.toList := by
  simp only [leS, strLt, Bool.not_eq_true', decide_eq_false_iff_not]
  exact List.not_lt
theorem leS_trans {a b d : Str} (h1 : leS a b = true) (h2 : leS b d = true) : leS a d = true := leS_iff.mpr (List.le_trans (leS_iff.mp h1) (leS_iff.mp h2))
theorem leS_total (a b : Str) : (leS a b || leS b a) = true := by
  rw [Bool.or_eq_true, leS_iff, leS_iff]; exact List.le_total _ _
theorem leS_antisymm {a b : Str} (h1 : leS a b = true) (h2 : leS b a = true) : a = b := by
  have := List.le_antisymm (leS_iff.mp h1) (leS_iff.mp h2)
  exact Str.ext' (Array.toList_inj.mp this)
theorem sortS_pw (l : List Str) : (sortS l).Pairwise fun a b => leS a b = true := List.pairwise_mergeSort (le := leS) (fun a b d => leS_trans) leS_total l
theorem sortS_eq {l l' : List Str} (hp : l'.Perm l) (hs : l'.Pairwise fun a b => leS a b = true) : l' = sortS l :=
  List.Perm.eq_of_pairwise (le := fun a b => leS a b = true) (fun a b _ _ h1 h2 => leS_antisymm h1 h2) hs (sortS_pw l) (hp.trans (List.mergeSort_perm l leS).symm)
theorem sortS_perm {l l' : List Str} (hp : l'.Perm l) : sortS l' = sortS l :=
  sortS_eq ((List.mergeSort_perm l' leS).trans hp) (sortS_pw l')
theorem ltCps_lt (a b : List Nat) : ltCps a b = decide (a < b) := by
  first
    | rfl
    | exact ltCps_eq a b
    | (rw [Bool.eq_iff_iff]; simp [ltCps])
theorem rising_pw : ∀ (p : Str) (l : List Str), risingS p l = true → (p :: l).Pairwise fun a b => leS a b = true
  | p, [], _ => List.pairwise_singleton _ _
  | p, x :: r, h => by
    have h' : (!ltCps x.cps.toList p.cps.toList && risingS x r) = true := h
    obtain ⟨h1, h2⟩ := Bool.and_eq_true_iff.mp h'
    have ih := rising_pw x r h2
    have hpx : leS p x = true := by
      rw [ltCps_lt] at h1
      exact h1
    refine List.Pairwise.cons (fun y hy => ?_) ih
    rcases List.mem_cons.mp hy with rfl | hy
    · exact hpx
    · exact leS_trans hpx ((List.pairwise_cons.mp ih).1 y hy)
theorem sortedS_pw {l : List Str} (h : sortedS l = true) : l.Pairwise fun a b => leS a b = true := by
  cases l with
  | nil => exact .nil
  | cons p r => exact rising_pw p r h
theorem rng_size {a b k : Int} (hk : 0 < k) : Builtin.Range.rangeSize a b k = (rngN a b k : Int) := by
  unfold Builtin.Range.rangeSize rngN
  rw [if_pos hk]
  split
  · rename_i h
    have : 0 ≤ (b - a - 1) / k := Int.ediv_nonneg (by omega) (by omega)
    omega
  · rfl
theorem rng_small {a b k : Int} (ha : midI a = true) (hb : midI b = true) (hk : 0 < k) (hk' : k < 1000) : Builtin.Range.small a b k = true := by
  have h1 := midI_lt ha
  have h2 := midI_lt hb
  have h3 : (rngN a b k : Int) ≤ 2 ^ 42 := by
    unfold rngN
    split
    · have h : (b - a - 1) / k ≤ b - a - 1 := Int.ediv_le_self _ (by omega)
      have : 0 ≤ (b - a - 1) / k := Int.ediv_nonneg (by omega) (by omega)
      omega
    · omega
  unfold Builtin.Range.small Builtin.Range.rangeFitsLong
  rw [rng_size hk, if_pos hk]
  simp only [Bool.and_eq_true, Bool.or_eq_true, decide_eq_true_eq]
  omega
theorem log_small {a : Nat} (h : a < 2 ^ 63) : a.log2 < 1920 := by
  rcases Nat.eq_zero_or_pos a with h0 | h0
  · rw [h0]; decide
  · have := (Nat.log2_lt (by omega)).mpr h
    omega
theorem new_range {s : Shared} {Q : Value → Shared → Prop} (hV : Vw c V s.heap) {a b k : Int} {t u v : Tok} {tk : Nat}
    (hQ : ∀ w V' h' tk, VLe V V' → Vw c V' h' → Is c V' (.rng a b k) w → Q w { s with heap := h', toks := tk }) :
    Q (.ref s.heap.objs.size) { s with heap := s.heap.push { cls := .type "range", data := .fields #[.int a t, .int b u, .int k v] }, toks := tk } :=
  new_frz hV rfl hQ fun V' l e => ⟨_, t, u, v, rfl, e⟩
theorem call_gives (b : BI) (ts : List T) (vs : List Value) (r : T) (hA : AOk n A) (e : tcall b ts = some r) (h : IsRL c V ts vs) : Gives c A V (call b.val vs) r := by
  have hu := hA.u
  have hl := lim_line
  cases b with
  | len =>
    refine t1_el e fun t ex e => ?_
    subst ex
    cases t with
    | list l =>
      change (if l.length ≤ lim then some (T.int l.length) else none) = some r at e
      refine xa_2_3 (h) fun v _ rq0 hv rq1 => ?_
      try clear h
      subst rq0
      subst rq1
      split at e
      · rename_i hlen; (refine some_el e fun qq => ?_; subst qq; clear e)
        refine xa_3_3 (hv.lst) fun a us k rq0 hg hi => ?_
        subst rq0
        intro s E Q hV hQ
        have hn := hi.length
        refine call_len_list (isList_of (hg _ hV.on)) (by simp only [List.size_toArray]; unfold lim at hlen; omega) ?_
        exact hQ _ V s.heap _ (VLe.refl V) hV ⟨_, by rw [List.size_toArray, hn]⟩
      · exact none_el e
    | tup l =>
      change (if l.length ≤ lim then some (T.int l.length) else none) = some r at e
      refine xa_2_3 (h) fun v _ rq0 hv rq1 => ?_
      try clear h
      subst rq0
      subst rq1
      split at e
      · rename_i hlen; (refine some_el e fun qq => ?_; subst qq; clear e)
        obtain ⟨a, us, k, rfl, hg, hi⟩ := hv.is (by intro _ h; cases h)
        intro s E Q hV hQ
        have hn := hi.length
        refine PyProof.Rows.len_tuple (isTup_of (hV.on.frz hg)) (by simp only [List.size_toArray]; unfold lim at hlen; omega) ?_
        exact hQ _ V s.heap _ (VLe.refl V) hV ⟨_, by rw [List.size_toArray, hn]⟩
      · exact none_el e
    | str x =>
      change (if x.length ≤ lim then some (T.int x.length) else none) = some r at e
      refine xa_2_3 (h) fun v _ rq0 hv rq1 => ?_
      try clear h
      subst rq0
      subst rq1
      split at e
      · rename_i hlen; (refine some_el e fun qq => ?_; subst qq; clear e)
        obtain ⟨u, rfl⟩ := hv.is (by intro _ h; cases h)
        exact fun s E Q hV hQ => PyProof.Rows.len_str (by unfold lim at hlen; omega) (hQ _ V s.heap _ (VLe.refl V) hV ⟨_, rfl⟩)
      · exact none_el e
    | _ => exact none_el e
  | range =>
    replace e : trange ts = some r := e
    cases ts with
    | nil => exact none_el e
    | cons a l =>
      refine tI_el e fun n ex e => ?_
      subst ex
      cases l with
      | nil =>
        change (if midI n then some (T.rng 0 n 1) else none) = some r at e
        refine xa_2_3 (h) fun v _ rq0 hv rq1 => ?_
        try clear h
        subst rq0
        subst rq1
        obtain ⟨t, rfl⟩ := hv.is (by intro _ h; cases h)
        split at e
        · (refine some_el e fun qq => ?_; subst qq; clear e); exact fun s E Q hV hQ => call_range_1 (new_range hV hQ)
        · exact none_el e
      | cons b l =>
        refine tI_el e fun m ex e => ?_
        subst ex
        cases l with
        | nil =>
          change (if midI n && midI m then some (T.rng n m 1) else none) = some r at e
          obtain ⟨v, _, rq0, hv, v', _, rq1, hv', rq2⟩ := h
          try clear h
          subst rq0
          subst rq1
          subst rq2
          obtain ⟨t, rfl⟩ := hv.is (by intro _ h; cases h)
          obtain ⟨t', rfl⟩ := hv'.is (by intro _ h; cases h)
          split at e
          · (refine some_el e fun qq => ?_; subst qq; clear e); exact fun s E Q hV hQ => call_range_2 (new_range hV hQ)
          · exact none_el e
        | cons d l =>
          refine tI_el e fun k ex e => ?_
          subst ex
          cases l with
          | nil =>
            change (if midI n && midI m && (decide (0 < k) && decide (k < 1000)) then some (T.rng n m k) else none) = some r at e
            obtain ⟨v, _, rq0, hv, v', _, rq1, hv', v'', _, rq2, hv'', rq3⟩ := h
            try clear h
            subst rq0
            subst rq1
            subst rq2
            subst rq3
            obtain ⟨t, rfl⟩ := hv.is (by intro _ h; cases h)
            obtain ⟨t', rfl⟩ := hv'.is (by intro _ h; cases h)
            obtain ⟨t'', rfl⟩ := hv''.is (by intro _ h; cases h)
            split at e
            · rename_i q; (refine some_el e fun qq => ?_; subst qq; clear e)
              simp only [Bool.and_eq_true, decide_eq_true_eq] at q
              have m1 := midI_lt q.1.1
              have m2 := midI_lt q.1.2
              exact fun s E Q hV hQ => call_range_3 (by omega) (new_range hV hQ) (Or.inl (PyProof.noPylong_small (by omega)))
            · exact none_el e
          | cons _ _ => exact none_el e
  | list =>
    refine t1_el e fun t ex e => ?_
    subst ex
    cases t with
    | list l =>
      change (if l.length ≤ lim then some (T.list l) else none) = some r at e
      refine xa_2_3 (h) fun v _ rq0 hv rq1 => ?_
      try clear h
      subst rq0
      subst rq1
      split at e
      · rename_i hlen; (refine some_el e fun qq => ?_; subst qq; clear e)
        refine xa_3_3 (hv.lst) fun a us k rq0 hg hi => ?_
        subst rq0
        intro s E Q hV hQ
        refine xa_4_1 (hV.bridge) fun h₀ L m news B => ?_
        refine list_copyK B.fr B.nw (isList_of (hg _ hV.on)) (fun D k' h' F' N' l1 => ?_) (by rw [List.size_toArray, hi.length]; omega)
        refine xa_0_3 (B.one F' N' l1) fun w1 w2 w3 => ?_
        exact hQ _ _ _ s.toks (VLe.set w3) (w1.add (cl := .frz (lstO us k')) w3 w2 rfl) ⟨_, us, k', rfl, View.set_self .., hi.mono (VLe.set w3).toF⟩
      · exact none_el e
    | rng a b k =>
      change (if midI a && midI b && (decide (0 < k) && decide (k < 1000)) && decide (rngN a b k ≤ lim) then some (T.list ((rngL a b k).map .int)) else none) = some r at e
      refine xa_2_3 (h) fun v _ rq0 hv rq1 => ?_
      try clear h
      subst rq0
      subst rq1
      split at e
      · rename_i q; (refine some_el e fun qq => ?_; subst qq; clear e)
        simp only [Bool.and_eq_true, decide_eq_true_eq] at q
        obtain ⟨r, t, u, w, rfl, hg⟩ := hv.is (by intro _ h; cases h)
        intro s E Q hV hQ
        refine xa_4_1 (hV.bridge) fun h₀ L m news B => ?_
        refine list_rangeD hA.h B.fr B.nw (hV.on.frz hg) (rng_small q.1.1.1 q.1.1.2 q.1.2.1 q.1.2.2) (rng_size q.1.2.1) (Nat.le_trans q.2 (by decide)) fun h' tk ys F' N' hk hn hl' hp hc => ?_
        obtain ⟨e, he⟩ := hp.1
        have w1 : Vw c V h' := B.back h' F' N'
        have w3 : V s.heap.objs.size = none := hV.on.fresh (Nat.le_refl _)
        exact hQ _ _ _ tk (VLe.set w3) (w1.add (cl := .frz (lstO ys e)) w3 he rfl) ⟨_, ys, e, rfl, View.set_self .., carried_is hc⟩
      · exact none_el e
    | _ => exact none_el e
  | sorted =>
    refine t1_el e fun t ex e => ?_
    subst ex
    cases t with
    | list l =>
      replace e : tsorted l = some r := e
      refine xa_2_3 (h) fun v _ rq0 hv rq1 => ?_
      try clear h
      subst rq0
      subst rq1
      unfold tsorted at e
      split at e
      · rename_i h64
        refine xa_3_3 (hv.lst) fun a us k rq0 hg hi => ?_
        subst rq0
        split at e
        · rename_i ns q; (refine some_el e fun qq => ?_; subst qq; clear e)
          intro s E Q hV hQ
          refine xa_4_1 (hV.bridge) fun h₀ L m news B => ?_
          refine sorted_N B.fr B.nw (isList_of (hg _ hV.on)) (asInts_is q hi) (by rw [hi.length]; exact h64) fun h' vs' ns' e F' N' hI hp hs => ?_
          refine xa_0_3 (B.one F' N' fun p hp => Nat.lt_succ_of_lt (Heap.lt_size (B.nw p hp).1)) fun w1 w2 w3 => ?_
          have := sortI_eq hp hs
          subst this
          exact hQ _ _ _ s.toks (VLe.set w3) (w1.add (cl := .frz (lstO vs' e)) w3 w2 rfl) ⟨_, vs', e, rfl, View.set_self .., ints_is hI⟩
        · split at e
          · rename_i ss q; (refine some_el e fun qq => ?_; subst qq; clear e)
            intro s E Q hV hQ
            refine xa_4_1 (hV.bridge) fun h₀ L m news B => ?_
            refine sorted_N_str B.fr B.nw (isList_of (hg _ hV.on)) (asStrs_is q hi) (by rw [hi.length]; exact h64) fun h' vs' ns' e F' N' hI hp hs => ?_
            refine xa_0_3 (B.one F' N' fun p hp => Nat.lt_succ_of_lt (Heap.lt_size (B.nw p hp).1)) fun w1 w2 w3 => ?_
            have := sortS_eq hp (sortedS_pw hs)
            subst this
            exact hQ _ _ _ s.toks (VLe.set w3) (w1.add (cl := .frz (lstO vs' e)) w3 w2 rfl) ⟨_, vs', e, rfl, View.set_self .., strs_is hI⟩
          · exact none_el e
      · exact none_el e
    | _ => exact none_el e
  | str =>
    refine t1_el e fun t ex e => ?_
    subst ex
    cases t with
    | int i =>
      change (if smallI i then some (T.str (toString i)) else none) = some r at e
      refine xa_2_3 (h) fun v _ rq0 hv rq1 => ?_
      try clear h
      subst rq0
      subst rq1
      obtain ⟨t, rfl⟩ := hv.is (by intro _ h; cases h)
      split at e
      · rename_i q; (refine some_el e fun qq => ?_; subst qq; clear e)
        have := smallI_lt q
        exact fun s E Q hV hQ => PySem.P.str_of_int (log_small this) (hQ _ V _ _ (VLe.refl V) hV ⟨_, rfl⟩)
      · exact none_el e
    | list l =>
      change (if plainT 4 (.list l) && PyData.showable (pd (.list l)) && decide ((PyData.shown (pd (.list l))).length ≤ lim) then some (T.str (PyData.shown (pd (.list l)))) else none) = some r at e
      refine xa_2_3 (h) fun v _ rq0 hv rq1 => ?_
      try clear h
      subst rq0
      subst rq1
      split at e
      · rename_i l q; (refine some_el e fun qq => ?_; subst qq; clear e)
        simp only [Bool.and_eq_true, decide_eq_true_eq] at q
        intro s E Q hV hQ
        obtain ⟨as, ra⟩ := readsR_of hV.on hv q.1.1
        have sh := shaped_of 4 _ q.1.1
        refine xa_3_3 (hv.lst) fun a us k rq0 hg hi => ?_
        subst rq0
        exact str_of_reads ra q.1.2 (PyData.noDict_hsm (PyData.hasDict_of_canLay _ sh.1)) hA.g (by omega) (fun _ _ e => e) (fun h' u tk hk => hQ _ V h' tk (VLe.refl V) (hV.mono hk) ⟨_, rfl⟩) (Nat.le_trans q.2 hl)
      · exact none_el e
    | _ => exact none_el e
  | int =>
    refine t1_el e fun t ex e => tI_el e fun i ex2 e => ?_
    subst ex ex2
    refine xa_2_3 (h) fun v _ rq0 hv rq1 => ?_
    try clear h
    subst rq0
    subst rq1
    obtain ⟨t, rfl⟩ := hv.is (by intro _ h; cases h)
    (refine some_el e fun qq => ?_; subst qq; clear e)
    exact fun s E Q hV hQ => call_int_int (tok_mono hV hQ ⟨_, rfl⟩)
  | abs =>
    refine t1_el e fun t ex e => tI_el e fun i ex2 e => ?_
    subst ex ex2
    refine xa_2_3 (h) fun v _ rq0 hv rq1 => ?_
    try clear h
    subst rq0
    subst rq1
    obtain ⟨t, rfl⟩ := hv.is (by intro _ h; cases h)
    (refine some_el e fun qq => ?_; subst qq; clear e)
    exact fun s E Q hV hQ => call_abs_int fun u tk => hQ _ V s.heap tk (VLe.refl V) hV ⟨_, rfl⟩
  | max =>
    refine t2_el e fun t u ex e => tI_el e fun i ex2 e => tI_el e fun j ex3 e => ?_
    subst ex ex2 ex3
    obtain ⟨v, _, rq0, hv, v', _, rq1, hv', rq2⟩ := h
    try clear h
    subst rq0
    subst rq1
    subst rq2
    obtain ⟨t, rfl⟩ := hv.is (by intro _ h; cases h)
    obtain ⟨t', rfl⟩ := hv'.is (by intro _ h; cases h)
    (refine some_el e fun qq => ?_; subst qq; clear e)
    intro s E Q hV hQ
    refine xa_4_1 (hV.bridge) fun h₀ L m news B => ?_
    exact max_two_N hA.h B.fr B.nw fun h' tk F' N' => hQ _ V h' tk (VLe.refl V) (B.back h' F' N') ⟨_, rfl⟩
end
end Mine
end
section
open PySem PySem.W PySem.Calls PyProof.Rows PySem.Spec PySem.SeqAt
set_option genInjectivity false
set_option tactic.hygienic false
namespace Mine
set_option genCtorIdx true in
inductive MI where
  | join | count | lindex | tindex | get
noncomputable def MI.ty : MI → String
  | .join => "str" | .count => "list" | .lindex => "list" | .tindex => "tuple" | .get => "dict"
noncomputable def MI.nm : MI → Str
  | .join => "join" | .count => "count" | .lindex => "index" | .tindex => "index" | .get => "get"
noncomputable def MI.id : MI → String
  | .join => "str.join" | .count => "list.count" | .lindex => "list.index" | .tindex => "tuple.index" | .get => "dict.get"
noncomputable def scal (t : T) : Bool := plainT 0 t
noncomputable def scalL (l : List T) : Bool := plainL 0 l
noncomputable def tmeth (m : MI) (o : T) (ts : List T) : Option T := match m with
  | .join => tS o fun x => t1 ts fun t => tL t fun l => match asStrs l with
    | some ss => if (ss.map (·.length)).sum + ss.length * x.length ≤ lim then some (.str (Txt.join x ss)) else none
    | none => none
  | .count => tL o fun l => t1 ts fun x => if scalL l && scal x then some (.int (l.countP fun y => teq y x : Nat)) else none
  | .lindex => tL o fun l => t1 ts fun x => if scalL l && scal x && decide (l.length ≤ lim) then (l.findIdx? fun y => teq y x).map fun j => .int (j : Nat) else none
  | .tindex => match o with
    | .tup l => t1 ts fun x => if scalL l && scal x && decide (l.length ≤ lim) then (l.findIdx? fun y => teq y x).map fun j => .int (j : Nat) else none
    | _ => none
  | .get => match o with
    | .dict ks tt => match ts with
      | [] => none
      | k :: r => tS k fun k => match r with
        | [] => some ((dlook ks tt k).getD .none)
        | d :: r => match r with
          | [] => some ((dlook ks tt k).getD d)
          | _ :: _ => none
    | _ => none
theorem lim_big : lim ≤ 16777216 := by unfold lim; omega
noncomputable def valD : Value → PyData
  | .bool b => .bool b
  | .int i _ => .int i
  | .str s _ => .str s
  | _ => .none
section
variable {c : Cfg} {A : Around} {V : View} {n : Nat}
theorem valD_is {t : T} {v : Value} (h : Is c V t v) (hs : scal t = true) : valD v = pd t := by
  cases t with
  | none => rw [show v = _ from h]; simp [valD, pd]
  | bool b => rw [show v = _ from h]; simp [valD, pd]
  | int i => obtain ⟨u, rfl⟩ := h; simp [valD, pd]
  | str s => obtain ⟨u, rfl⟩ := h; simp [valD, pd]
  | tup l => simp [scal, plainT] at hs
  | list l => simp [scal, plainT] at hs
  | dict ks l => simp [scal, plainT] at hs
  | vec k i a => simp [scal, plainT] at hs
  | rng x y z => simp [scal, plainT] at hs
theorem scalL_cons {t : T} {l : List T} : scalL (t :: l) = true ↔ scal t = true ∧ scalL l = true := by
  show (plainT 0 t && plainL 0 l) = true ↔ _
  exact Bool.and_eq_true_iff
noncomputable def eqD (d : PyData) (v : Value) : Bool := PyData.eqv (valD v) d
theorem eqAts {h : Heap} {s : Shared} (H : On V s.heap) (hA : AOk n A) {x : T} {vx : Value} (hx : Is c V x vx) (hsx : scal x = true) : ∀ {l : List T} {vs : List Value}, IsL c V l vs → scalL l = true →
    ∀ y ∈ vs, EqAt A.in1 s y vx (eqD (pd x) y)
  | [], _, h, _ => by rw [show _ = [] from h]; intro y hy; cases hy
  | t :: ts, _, ⟨v, vs', e, h1, h2⟩, hl => by
    obtain ⟨a, b⟩ := scalL_cons.mp hl
    subst e
    intro y hy
    rcases List.mem_cons.mp hy with rfl | hy
    · obtain ⟨as, ra⟩ := reads_of H 0 t y h1 a
      obtain ⟨bs, rb⟩ := reads_of H 0 x vx hx hsx
      have s1 := shaped_of 0 t a
      have s2 := shaped_of 0 x hsx
      have hu := hA.u
      unfold eqD
      rw [valD_is h1 a]
      exact eqAt_reads _ _ _ _ _ _ _ _ ra rb s1.1 s2.1 (by show A.units + 1 + _ < _; have := Nat.min_le_left (pd t).depth (pd x).depth; omega)
    · exact eqAts (h := h) H hA hx hsx h2 b y hy
theorem countP_is {d : PyData} : ∀ {l : List T} {vs : List Value}, IsL c V l vs → scalL l = true → vs.countP (eqD d) = l.countP fun y => PyData.eqv (pd y) d
  | [], _, h, _ => by rw [show _ = [] from h]; rfl
  | t :: ts, _, ⟨v, vs', e, h1, h2⟩, hl => by
    obtain ⟨a, b⟩ := scalL_cons.mp hl
    subst e
    rw [List.countP_cons, List.countP_cons, countP_is h2 b]
    unfold eqD; rw [valD_is h1 a]
theorem findIdx_is {d : PyData} : ∀ {l : List T} {vs : List Value} {j : Nat}, IsL c V l vs → scalL l = true → (l.findIdx? fun y => PyData.eqv (pd y) d) = some j →
    ∃ hj : j < vs.length, eqD d vs[j] = true ∧ ∀ m (hm : m < vs.length), m < j → eqD d vs[m] = false
  | [], _, _, _, _, e => by simp at e
  | t :: ts, _, j, ⟨v, vs', e, h1, h2⟩, hl, q => by
    obtain ⟨a, b⟩ := scalL_cons.mp hl
    subst e
    rw [List.findIdx?_cons] at q
    split at q
    · rename_i hd; (refine some_el q fun qq => ?_; subst qq; clear q)
      refine ⟨by simp, ?_, fun m hm h0 => absurd h0 (Nat.not_lt_zero _)⟩
      show PyData.eqv (valD v) d = true
      rw [valD_is h1 a]; exact hd
    · rename_i hd
      refine xa_1_2 (Option.map_eq_some_iff.mp q) fun i q' rq0 => ?_
      subst rq0
      refine xa_1_2 (findIdx_is h2 b q') fun hj g1 g2 => ?_
      refine ⟨by simpa using hj, by simpa using g1, fun m hm h0 => ?_⟩
      cases m with
      | zero =>
        show PyData.eqv (valD v) d = false
        rw [valD_is h1 a]; simpa using hd
      | succ m => simpa using g2 m (by simpa using hm) (by omega)
theorem wpAny_forIn_rng {M : Model} {A : Around} {E : Value → Shared → Prop} {s : Shared} {β : Type} (f : Nat → β → Sem (ForInStep β)) (I : List Nat → β → Shared → Prop) (Q : β → Shared → Prop)
    (turn : ∀ x rest b s, I (x :: rest) b s → wpAny M A (f x b) (fun r s' => match r with | .yield b' => I rest b' s' | .done b' => Q b' s') E s)
    (fin : ∀ b s, I [] b s → Q b s) (hi : Nat) (b : β) (h : I (List.range' 0 hi) b s) : wpAny M A (forIn [0:hi] b f) Q E s := by
  rw [Std.Legacy.Range.forIn_eq_forIn_range']
  have e : Std.Legacy.Range.size [0:hi] = hi := by simp [Std.Legacy.Range.size]
  refine wpAny_forIn_list f I Q turn fin _ b ?_
  simpa [e] using h
theorem tuple_indexAt (l : Addr) (items : Array Value) (n : Nat) (dd : Option Addr) (sl : Array (Option Value)) (x : Value) (e : Value → Bool) (j : Nat) (hj : j < items.size)
    (hit : e items[j] = true) (hno : ∀ m (hm : m < items.size), m < j → e items[m] = false) :
    Meets (Builtin.«tuple.index» ⟨[.ref l, x], []⟩)
      (fun A R s => s.heap.get? l = some { cls := .type "tuple", dict := dd, data := .seq items n, slots := sl } ∧ (∀ y, y ∈ items → EqAt A.in1 s y x (e y)) ∧ R (.ok (.ret (.int j s.toks))) { s with toks := s.toks + 1 }) :=
  .of_wp fun prog w A R s h => by
    obtain ⟨hp, g, d, tk, os⟩ := s; obtain ⟨hl, he, h⟩ := h
    wp_walk using AutoSeq1.wpAny_loadPart' hl, wpAny_forIn_rng _ (fun rest (b : Option Fin × Unit) s' => b.1 = none ∧ s' = ⟨hp, g, d, tk, os⟩ ∧ ∃ i, rest = List.range' i (items.size - i) ∧ i ≤ j) _
    case turn =>
      rintro y rest b s' ⟨hb, rfl, i, hr, hij⟩
      have hlt : i < items.size := by omega
      have e1 : items.size - i = (items.size - (i + 1)) + 1 := by omega
      rw [e1, List.range'_succ] at hr
      obtain ⟨rfl, rfl⟩ := List.cons.inj hr
      have hy : items[y]? = some items[y] := by simp [hlt]
      rw [hy]
      refine wpAny_bind (he items[y] (Array.getElem_mem hlt) prog w _ _ ?_)
      by_cases hyj : y = j
      · subst hyj
        rw [hit]
        wp_walk
        exact ⟨_, rfl, h⟩
      · have : e items[y] = false := hno y hlt (by omega)
        rw [this]
        wp_walk
        exact ⟨rfl, rfl, y + 1, rfl, by omega⟩
    case fin =>
      rintro ⟨b1, b2⟩ s' ⟨hb, rfl, i, hr, hij⟩
      exfalso
      have := congrArg List.length hr
      simp at this
      omega
    case h =>
      exact ⟨rfl, rfl, 0, by simp, Nat.zero_le _⟩
set_option tactic.hygienic true in
theorem meth_gives (m : MI) (o r : T) (ts : List T) (vo : Value) (vs : List Value) (hA : AOk n A) (e : tmeth m o ts = some r) (ho : IsR c V o vo) (h : IsL c V ts vs) :
    Gives c A V (call (.builtin m.id) (vo :: vs)) r := by
  cases m with
  | join =>
    refine tS_el e fun x ex e1 => t1_el e1 fun t ex2 e2 => tL_el e2 fun l ex3 e3 => ?_
    clear e e1 e2; subst ex ex2 ex3; have e := e3; clear e3
    obtain ⟨t, rfl⟩ := ho.is (by intro _ h; cases h)
    refine xa_2_3 (h) fun v _ rq0 hv rq1 => ?_
    try clear h
    subst rq0
    subst rq1
    replace hv := hv.r
    split at e
    · rename_i ss q
      split at e
      · rename_i hl; (refine some_el e fun qq => ?_; subst qq; clear e)
        refine xa_3_3 (hv.lst) fun a us k rq0 hg hi => ?_
        subst rq0
        exact fun s E Q hV hQ => join_list (isList_of (hg _ hV.on)) (by simpa using asStrs_is q hi) (Nat.le_trans hl lim_big) fun t' k => hQ _ V s.heap k (VLe.refl V) hV ⟨_, rfl⟩
      · exact none_el e
    · exact none_el e
  | count =>
    refine tL_el e fun l ex e1 => t1_el e1 fun x ex2 e2 => ?_
    clear e e1; subst ex ex2; have e := e2; clear e2
    refine xa_2_3 (h) fun v _ rq0 hv rq1 => ?_
    try clear h
    subst rq0
    subst rq1
    split at e
    · rename_i q; (refine some_el e fun qq => ?_; subst qq; clear e)
      obtain ⟨q1, q2⟩ := Bool.and_eq_true_iff.mp q
      refine xa_3_3 (ho.lst) fun a us k rq0 hg hi => ?_
      subst rq0
      have hv' : Is c V x v := hv
      intro s E Q hV hQ
      have ha := hg _ hV.on
      show wpAny _ _ (call (.builtin "list.count") _) _ _ _
      refine call_meets PySem.F.slot_list_count ⟨_, ha, rfl⟩ PySem.F.entry_list_count (PySem.F.args_list_count_2 _ _) (list_countAt a us.toArray k none #[] v (eqD (pd x))) ⟨ha, fun y hy => eqAts (h := s.heap) hV.on hA hv' q2 hi q1 y (by simpa using hy), ?_⟩
      exact hQ _ V s.heap _ (VLe.refl V) hV ⟨_, by rw [show us.toArray.toList = us from rfl, countP_is hi q1]; rfl⟩
    · exact none_el e
  | lindex =>
    refine tL_el e fun l ex e1 => t1_el e1 fun x ex2 e2 => ?_
    clear e e1; subst ex ex2; have e := e2; clear e2
    refine xa_2_3 (h) fun v _ rq0 hv rq1 => ?_
    try clear h
    subst rq0
    subst rq1
    split at e
    · rename_i q
      refine xa_1_2 (Option.map_eq_some_iff.mp e) fun j q4 rq0 => ?_
      subst rq0
      simp only [Bool.and_eq_true, decide_eq_true_eq] at q
      refine ya_3 (q) fun q1 q2 q3 => ?_
      try clear q
      refine xa_3_3 (ho.lst) fun a us k rq0 hg hi => ?_
      subst rq0
      have hv' : Is c V x v := hv
      refine xa_1_2 (findIdx_is hi q1 q4) fun hj g1 g2 => ?_
      have hlen := hi.length
      intro s E Q hV hQ
      have ha := hg _ hV.on
      show wpAny _ _ (call (.builtin "list.index") _) _ _ _
      refine call_meets PySem.F.slot_list_index ⟨_, ha, rfl⟩ PySem.F.entry_list_index (PySem.F.args_list_index_2 _ _) (list_indexAt a us.toArray k none #[] v (eqD (pd x)) j (by simpa using hj) (by unfold lim at q3; omega) (by simpa using g1) (fun m hm h0 => by simpa using g2 m (by simpa using hm) h0)) ⟨ha, fun y hy => eqAts (h := s.heap) hV.on hA hv' q2 hi q1 y (by simpa using hy), ?_⟩
      exact hQ _ V s.heap _ (VLe.refl V) hV ⟨_, rfl⟩
    · exact none_el e
  | tindex =>
    cases o with
    | tup l =>
      refine t1_el e fun x ex e2 => ?_
      clear e; subst ex; have e := e2; clear e2
      refine xa_2_3 (h) fun v _ rq0 hv rq1 => ?_
      try clear h
      subst rq0
      subst rq1
      split at e
      · rename_i q
        refine xa_1_2 (Option.map_eq_some_iff.mp e) fun j q4 rq0 => ?_
        subst rq0
        simp only [Bool.and_eq_true, decide_eq_true_eq] at q
        refine ya_3 (q) fun q1 q2 q3 => ?_
        try clear q
        obtain ⟨a, us, k, rfl, hg, hi⟩ := ho.is (by intro _ h; cases h)
        have hv' : Is c V x v := hv
        refine xa_1_2 (findIdx_is hi q1 q4) fun hj g1 g2 => ?_
        intro s E Q hV hQ
        have ha := hV.on.frz hg
        show wpAny _ _ (call (.builtin "tuple.index") _) _ _ _
        refine call_meets PySem.F.slot_tuple_index ⟨_, ha, rfl⟩ PySem.F.entry_tuple_index (PySem.F.args_tuple_index_2 _ _) (tuple_indexAt a us.toArray k none #[] v (eqD (pd x)) j (by simpa using hj) (by simpa using g1) (fun m hm h0 => by simpa using g2 m (by simpa using hm) h0)) ⟨ha, fun y hy => eqAts (h := s.heap) hV.on hA hv' q2 hi q1 y (by simpa using hy), ?_⟩
        exact hQ _ V s.heap _ (VLe.refl V) hV ⟨_, rfl⟩
      · exact none_el e
    | _ => exact none_el e
  | get =>
    cases o with
    | dict ks tt =>
      cases ts with
      | nil => exact none_el e
      | cons k l =>
        refine tS_el e fun x ex e2 => ?_
        clear e; subst ex; have e := e2; clear e2
        cases l with
        | nil =>
          change some ((dlook ks tt x).getD .none) = some r at e
          refine xa_2_3 (h) fun v _ rq0 hv rq1 => ?_
          try clear h
          subst rq0
          subst rq1
          obtain ⟨t, rfl⟩ := hv
          obtain ⟨d, es, k, rfl, hg, hs, hk, hl⟩ := ho.is (by intro _ h; cases h)
          (refine some_el e fun qq => ?_; subst qq; clear e)
          intro s E Q hV hQ
          have ha := hV.on.frz hg
          have hf := hk.find hl x
          show wpAny _ _ (call (.builtin "dict.get") _) _ _ _
          refine call_meetsIn PySem.F.slot_dict_get ⟨_, ha, rfl⟩ PySem.F.entry_dict_get (PySem.F.args_dict_get_2 _ _) (PySem.meets_dict_get (PySem.strKind c.prog c.w) d (strKind_is c.prog c.w x t) hs) ⟨_, mapOf_at ha hk, ?_⟩
          refine hQ _ V s.heap _ (VLe.refl V) hV ?_
          split at hf
          · rename_i q; obtain ⟨t', q', q''⟩ := hf; rw [q, q']; exact q''
          · rename_i q; rw [q, hf]; rfl
        | cons dd l =>
          cases l with
          | nil =>
            change some ((dlook ks tt x).getD dd) = some r at e
            obtain ⟨v, _, rq0, hv, v', _, rq1, hv', rq2⟩ := h
            try clear h
            subst rq0
            subst rq1
            subst rq2
            obtain ⟨t, rfl⟩ := hv
            obtain ⟨d, es, k, rfl, hg, hs, hk, hl⟩ := ho.is (by intro _ h; cases h)
            (refine some_el e fun qq => ?_; subst qq; clear e)
            intro s E Q hV hQ
            have ha := hV.on.frz hg
            have hf := hk.find hl x
            show wpAny _ _ (call (.builtin "dict.get") _) _ _ _
            refine call_meetsIn PySem.F.slot_dict_get ⟨_, ha, rfl⟩ PySem.F.entry_dict_get (PySem.F.args_dict_get_3 _ _ _) (PySem.meets_dict_get_default (PySem.strKind c.prog c.w) d (strKind_is c.prog c.w x t) hs v') ⟨_, mapOf_at ha hk, ?_⟩
            refine hQ _ V s.heap _ (VLe.refl V) hV ?_
            split at hf
            · rename_i q; obtain ⟨t', q', q''⟩ := hf; rw [q, q']; exact q''
            · rename_i q; rw [q, hf]; exact hv'
          | cons _ _ => exact none_el e
    | _ => exact none_el e
end
end Mine
end
section
open PySem PySem.W PySem.Calls PyProof.Rows PySem.Spec PySem.SeqAt
set_option genInjectivity false
set_option tactic.hygienic false
namespace Mine
inductive ME where
  | none
  | bool (b : Bool)
  | int (i : Int)
  | str (s : Str)
  | var (i : Nat)
  | gint (nm : Str) (i : Int)
  | attr (e : ME) (nm : Str)
  | idx (e i : ME)
  | slc (e : ME) (lo hi : Option ME)
  | bin (op : Operator) (a b : ME)
  | cmp (op : CmpOp) (a b : ME)
  | bop (op : BoolOp) (l : List ME)
  | not (e : ME)
  | neg (e : ME)
  | ite (t a b : ME)
  | list (l : List ME)
  | tup (l : List ME)
  | dict (ks : List Str) (l : List ME)
  | comp (elt it : ME) (cond : Option ME)
  | call (nm : Str) (f : Addr) (l : List ME)
  | bcall (b : BI) (l : List ME)
  | meth (m : MI) (o : ME) (l : List ME)
  | isv (e : ME)
  | isl (e : ME)
  | fstr (l : List ME)
  | opq
inductive LV where
  | undef
  | frz (t : T)
  | own (l : List T)
  | lock (l : List T)
  | ownd (ks : List Str) (l : List T)
  | owndl (ks : List Str) (l : List (List T))
  | ownv (k i a : T)
noncomputable def LV.ctorIdx (t : LV) : Nat := @LV.casesOn (fun _ => Nat) t 0 (fun _ => 1) (fun _ => 2) (fun _ => 3) (fun _ _ => 4) (fun _ _ => 5) fun _ _ _ => 6
noncomputable def asB : T → Option Bool
  | .bool b => some b
  | _ => none
noncomputable def iterT : T → Option (List T)
  | .list l => if l.length ≤ lim then some l else none
  | .rng a b k => if midI a && midI b && (decide (0 < k) && decide (k < 1000)) && decide (rngN a b k ≤ lim) then some ((rngL a b k).map .int) else none
  | _ => none
noncomputable def compRun (test : T → Option Bool) (f : T → Option T) : List T → Option (List T)
  | [] => some []
  | t :: ts => do
    if ← test t then do
      let r ← f t
      let rs ← compRun test f ts
      pure (r :: rs)
    else compRun test f ts
noncomputable def tslc (o : T) (lo hi : Option Int) : Option T := match o with
  | .list l => if l.length ≤ lim then some (.list (tslice l lo hi)) else none
  | _ => none
noncomputable def fld : T → Option Str
  | .str s => some s
  | .int i => if smallI i then some (toString i) else none
  | _ => none
noncomputable def fjoin : Str → List T → Option T
  | s, [] => if s.length ≤ lim then some (.str s) else none
  | s, t :: ts => match fld t with
    | some x => if s.length + x.length ≤ lim then fjoin (s ++ x) ts else none
    | none => none
mutual
noncomputable def ev (ct : Addr → List T → Option T) : Bool → List LV → ME → Option T
  | _, _, .none => some .none
  | _, _, .bool b => some (.bool b)
  | _, _, .int i => some (.int i)
  | _, _, .str s => some (.str s)
  | r, σ, .var i => match σ[i]? with
    | some (.frz t) => some t
    | some (.own l) => if r then some (.list l) else none
    | some (.lock l) => if r then some (.list l) else none
    | _ => none
  | _, _, .gint _ i => some (.int i)
  | _, σ, .attr e nm => do tattr (← ev ct false σ e) nm
  | _, σ, .idx e i => do tidx (← ev ct true σ e) (← ev ct false σ i)
  | _, σ, .slc e lo hi => do tslc (← ev ct true σ e) (← evO ct σ lo) (← evO ct σ hi)
  | _, σ, .bin op a b => do tbin op (← ev ct true σ a) (← ev ct true σ b)
  | _, σ, .cmp op a b => do pure (.bool (← tcmp op (← ev ct true σ a) (← ev ct true σ b)))
  | _, σ, .bop op l => do pure (.bool (← evB ct σ op l))
  | _, σ, .not e => do pure (.bool (!(← asB (← ev ct false σ e))))
  | _, σ, .neg e => match ev ct false σ e with
    | some (.int a) => some (.int (-a))
    | _ => none
  | _, σ, .ite t a b => do if ← asB (← ev ct false σ t) then ev ct false σ a else ev ct false σ b
  | _, σ, .list l => do
    let ts ← evL ct false σ l
    if ts.length ≤ lim then pure (.list ts) else none
  | _, σ, .tup l => do
    let ts ← evL ct false σ l
    if ts.length ≤ lim then pure (.tup ts) else none
  | _, σ, .dict ks l => do pure (.dict ks (← evL ct false σ l))
  | _, σ, .comp elt it cond => do
    let items ← iterT (← ev ct true σ it)
    pure (.list (← compRun (fun t => evC ct (σ ++ [.frz t]) cond) (fun t => ev ct false (σ ++ [.frz t]) elt) items))
  | _, σ, .call _ f l => do ct f (← evL ct false σ l)
  | _, σ, .bcall b l => do tcall b (← evL ct true σ l)
  | _, σ, .meth m o l => do tmeth m (← ev ct true σ o) (← evL ct false σ l)
  | _, σ, .isv e => match ev ct false σ e with
    | some (.vec _ _ _) => some (.bool true)
    | _ => none
  | _, σ, .isl e => match ev ct false σ e with
    | some (.bool _) => some (.bool false)
    | _ => none
  | _, σ, .fstr l => do fjoin Str.empty (← evL ct false σ l)
  | _, _, .opq => none
noncomputable def evO (ct : Addr → List T → Option T) : List LV → Option ME → Option (Option Int)
  | _, none => some none
  | σ, some e => match ev ct false σ e with
    | some (.int i) => some (some i)
    | _ => none
noncomputable def evC (ct : Addr → List T → Option T) : List LV → Option ME → Option Bool
  | _, none => some true
  | σ, some e => do asB (← ev ct false σ e)
noncomputable def evL (ct : Addr → List T → Option T) : Bool → List LV → List ME → Option (List T)
  | _, _, [] => some []
  | r, σ, e :: es => do
    let t ← ev ct r σ e
    let ts ← evL ct r σ es
    pure (t :: ts)
noncomputable def evB (ct : Addr → List T → Option T) : List LV → BoolOp → List ME → Option Bool
  | _, _, [] => none
  | σ, op, [e] => do asB (← ev ct false σ e)
  | σ, op, e :: e' :: es => do
    match op, ← asB (← ev ct false σ e) with
    | .And, false => pure false
    | .Or, true => pure true
    | _, _ => evB ct σ op (e' :: es)
end
noncomputable abbrev KN := List (Str × NameKind)
noncomputable def knC (kn : KN) (sc : Scope) : KN := sc.names.map fun (n, k) => if (k == .free && kn.lookup n == some .cell) then (n, .cell) else (n, k)
noncomputable def tblC (tbl : List (Option Str)) (sc : Scope) (x : Str) : List (Option Str) :=
  (tbl.map fun o => match o with
    | some n => if sc.names.lookup n == some .free then some n else none
    | none => none) ++ [some x]
noncomputable def compOk (kn : KN) (sc : Scope) (x : Str) : Bool :=
  sc.kind == .function && sc.names.lookup x == some .local && sc.names.all (fun y => y.2 != .cell) && sc.names.all (fun y => y.2 != .local || sc.names.lookup y.1 == some .local) &&
  sc.names.all (fun y => y.2 != .free || kn.lookup y.1 == some .cell) && x != ("__debug__" : Str) && sc.names.all (fun y => y.2 != .free || y.1 != ("__debug__" : Str))
noncomputable def vOk (kn : KN) (tbl : List (Option Str)) (i : Nat) (x : Str) : Bool :=
  tbl[i]? == some (some x) && (kn.lookup x == some .local || kn.lookup x == some .cell) && x != ("__debug__" : Str)
noncomputable def gOk (kn : KN) (nm : Str) : Bool := kn.lookup nm == some .globalImplicit && nm != ("__debug__" : Str)
noncomputable def isSl (x : Expr) : Bool := x.ctorIdx == 26
noncomputable def isNm (x : Expr) : Bool := x.ctorIdx == 23
noncomputable def isCall : Expr → Bool
  | .Call (.Name _ _) [] [] _ => true
  | _ => false
noncomputable def isSetD (x : Expr) : Bool := x.ctorIdx == 7
noncomputable def isStar (x : Expr) : Bool := x.ctorIdx == 22
noncomputable def isStrC (x : Expr) : Bool := vConst x fun c _ _ => match c with | .str _ => true | _ => false
noncomputable def keyOf (k : Option Expr) : Option Str := k.bind fun x => if h : x.ctorIdx = 19 then Expr.Constant.elim (motive_1 := fun _ => Option Str) x h fun c _ _ => match c with | .str s => some s | _ => none else none
noncomputable def x_none  (x : Expr) : Bool := vConst x fun c _ _ => match c with | .none => true | _ => false
noncomputable def x_bool (b : Bool) (x : Expr) : Bool := vConst x fun c _ _ => match c with | .bool b' => b == b' | _ => false
noncomputable def x_int (b : Int) (x : Expr) : Bool := vConst x fun c _ _ => match c with | .int b' => b == b' | _ => false
noncomputable def x_str (b : Str) (x : Expr) : Bool := vConst x fun c _ _ => match c with | .str b' => b == b' | _ => false
noncomputable def x_var (kn : KN) (tbl : List (Option Str)) (i : Nat) (x : Expr) : Bool := vName x fun y _ => vOk kn tbl i y
noncomputable def x_gint (G : Str → Option Value) (kn : KN) (nm : Str) (i : Int) (x : Expr) : Bool := vName x fun y _ => y == nm && (gOk kn nm && (match G nm with | some (.int j _) => i == j | _ => false))
noncomputable def x_attr (e : Expr → Bool) (nm : Str) (x : Expr) : Bool := vAttr x fun v a _ => a == nm && (!isCall v && e v)
noncomputable def x_idx (e i : Expr → Bool) (x : Expr) : Bool := vSub x fun v s _ => !isSl s && (e v && i s)
noncomputable def x_slc (e : Expr → Bool) (lo hi : Option Expr → Bool) (x : Expr) : Bool := vSub x fun v s _ => vSlice s fun l u st _ => st.isNone && (isNm v && (e v && (lo l && hi u)))
noncomputable def x_bin (op : Operator) (a b : Expr → Bool) (x : Expr) : Bool := vBin x fun l op' r _ => op == op' && (a l && b r)
noncomputable def x_cmp (op : CmpOp) (a b : Expr → Bool) (x : Expr) : Bool := vCmp x fun l ops rs _ => one ops fun op' => one rs fun r => op == op' && (a l && (b r && !behindInMarks op r))
noncomputable def x_bop (op : BoolOp) (l : List Expr → Bool) (x : Expr) : Bool := vBop x fun op' vs _ => op == op' && l vs
noncomputable def x_not (e : Expr → Bool) (x : Expr) : Bool := vUn x fun op v _ => op == .Not && e v
noncomputable def x_neg (e : Expr → Bool) (x : Expr) : Bool := vUn x fun op v _ => op == .USub && e v
noncomputable def x_ite (t a b : Expr → Bool) (x : Expr) : Bool := vIte x fun t' a' b' _ => t t' && (a a' && b b')
noncomputable def x_list (l : List Expr → Bool) (x : Expr) : Bool := vLst x fun vs _ => l vs
noncomputable def x_tup (l : List Expr → Bool) (x : Expr) : Bool := vTup x fun vs _ _ => l vs
noncomputable def x_dict (ks : List Str) (l : List Expr → Bool) (x : Expr) : Bool := vDct x fun kvs vs _ => kvs.map keyOf == ks.map some && (decide (ks.Nodup ∧ 0 < ks.length ∧ ks.length ≤ 15 ∧ kvs.length = vs.length) && l vs)
noncomputable def x_comp (kn : KN) (tbl : List (Option Str)) (elt : KN → List (Option Str) → Expr → Bool) (it : Expr → Bool) (cond : KN → List (Option Str) → List Expr → Bool) (x : Expr) : Bool :=
  vLc x fun e gs sc _ => one gs fun g => vName g.1 fun y _ => decide (g.4 = 0) && (compOk kn sc y && (it g.2 && (elt (knC kn sc) (tblC tbl sc y) e && (!isSetD g.2 && cond (knC kn sc) (tblC tbl sc y) g.3))))
noncomputable def x_call (G : Str → Option Value) (kn : KN) (nm : Str) (f : Addr) (l : List Expr → Bool) (x : Expr) : Bool :=
  vCall x fun g as ks _ => vName g fun y _ => ks.isEmpty && (y == nm && (gOk kn nm && (G nm == some (.ref f) && (l as && !as.isEmpty))))
noncomputable def x_bcall (kn : KN) (b : BI) (l : List Expr → Bool) (x : Expr) : Bool := vCall x fun g as ks _ => vName g fun y _ => ks.isEmpty && (y == b.nm && (gOk kn y && (l as && !as.isEmpty)))
noncomputable def x_meth (m : MI) (o : Expr → Bool) (l : List Expr → Bool) (x : Expr) : Bool :=
  vCall x fun g as ks p => vAttr g fun v y ap => ks.isEmpty && (y == m.nm && (o v && (l as && (ap.endLine == p.line && (!isCall v && (!as.isEmpty && decide (as.length < 20)))))))
noncomputable def x_isw (w : Str) (kn : KN) (e : Expr → Bool) (x : Expr) : Bool :=
  vCall x fun g as ks _ => vName g fun y _ => cns as fun v r => one r fun u => vName u fun z _ => ks.isEmpty && (y == ("isinstance" : Str) && (z == w && (gOk kn y && (gOk kn z && (!isStar v && e v)))))
noncomputable def x_isv (kn : KN) (e : Expr → Bool) (x : Expr) : Bool := x_isw "Vector" kn e x
noncomputable def x_isl (kn : KN) (e : Expr → Bool) (x : Expr) : Bool := x_isw "list" kn e x
noncomputable def x_fstr (l : List Expr → Bool) (x : Expr) : Bool := vJoin x fun vs _ => cns vs fun v₁ r => cns r fun v₂ vs => l (v₁ :: v₂ :: vs)
noncomputable def x_isSome (f : Expr → Bool) (x : Option Expr) : Bool := match x with | some v => f v | none => false
noncomputable def x_one (f : Expr → Bool) (x : List Expr) : Bool := one x f
noncomputable def x_cons (f : Expr → Bool) (g : List Expr → Bool) (x : List Expr) : Bool := cns x fun v vs => !isStar v && (f v && g vs)
noncomputable def x_fcons (f : Expr → Bool) (g : List Expr → Bool) (x : List Expr) : Bool := cns x fun v vs => (vFmt v (fun w k sp _ => decide (k = -1) && (sp.isNone && f w)) || (isStrC v && f v)) && g vs
mutual
noncomputable def mE (G : Str → Option Value) : ME → KN → List (Option Str) → Expr → Bool
  | .none, kn, tbl, x => x_none  x
  | .bool b, kn, tbl, x => x_bool b x
  | .int b, kn, tbl, x => x_int b x
  | .str b, kn, tbl, x => x_str b x
  | .var i, kn, tbl, x => x_var kn tbl i x
  | .gint nm i, kn, tbl, x => x_gint G kn nm i x
  | .attr e nm, kn, tbl, x => x_attr (mE G e kn tbl) nm x
  | .idx e i, kn, tbl, x => x_idx (mE G e kn tbl) (mE G i kn tbl) x
  | .slc e lo hi, kn, tbl, x => x_slc (mE G e kn tbl) (mO G lo kn tbl) (mO G hi kn tbl) x
  | .bin op a b, kn, tbl, x => x_bin op (mE G a kn tbl) (mE G b kn tbl) x
  | .cmp op a b, kn, tbl, x => x_cmp op (mE G a kn tbl) (mE G b kn tbl) x
  | .bop op l, kn, tbl, x => x_bop op (mL G l kn tbl) x
  | .not e, kn, tbl, x => x_not (mE G e kn tbl) x
  | .neg e, kn, tbl, x => x_neg (mE G e kn tbl) x
  | .ite t a b, kn, tbl, x => x_ite (mE G t kn tbl) (mE G a kn tbl) (mE G b kn tbl) x
  | .list l, kn, tbl, x => x_list (mL G l kn tbl) x
  | .tup l, kn, tbl, x => x_tup (mL G l kn tbl) x
  | .dict ks l, kn, tbl, x => x_dict ks (mL G l kn tbl) x
  | .comp elt it cond, kn, tbl, x => x_comp kn tbl (mE G elt) (mE G it kn tbl) (mC G cond) x
  | .call nm f l, kn, tbl, x => x_call G kn nm f (mL G l kn tbl) x
  | .bcall b l, kn, tbl, x => x_bcall kn b (mL G l kn tbl) x
  | .meth m o l, kn, tbl, x => x_meth m (mE G o kn tbl) (mL G l kn tbl) x
  | .isv e, kn, tbl, x => x_isv kn (mE G e kn tbl) x
  | .isl e, kn, tbl, x => x_isl kn (mE G e kn tbl) x
  | .fstr l, kn, tbl, x => x_fstr (mF G l kn tbl) x
  | .opq, _, _, _ => true
noncomputable def mO (G : Str → Option Value) : Option ME → KN → List (Option Str) → Option Expr → Bool
  | none, _, _, x => x.isNone
  | some e, kn, tbl, x => x_isSome (mE G e kn tbl) x
noncomputable def mC (G : Str → Option Value) : Option ME → KN → List (Option Str) → List Expr → Bool
  | none, _, _, x => x.isEmpty
  | some e, kn, tbl, x => x_one (mE G e kn tbl) x
noncomputable def mL (G : Str → Option Value) : List ME → KN → List (Option Str) → List Expr → Bool
  | [], _, _, x => x.isEmpty
  | e :: es, kn, tbl, x => x_cons (mE G e kn tbl) (mL G es kn tbl) x
noncomputable def mF (G : Str → Option Value) : List ME → KN → List (Option Str) → List Expr → Bool
  | [], _, _, x => x.isEmpty
  | e :: es, kn, tbl, x => x_fcons (mE G e kn tbl) (mF G es kn tbl) x
end
end Mine
end
section
open PySem PySem.W PySem.Calls PyProof.Rows PySem.Spec PySem.SeqAt
set_option genInjectivity false
set_option tactic.hygienic false
namespace Mine
structure EOk (env : Env) (kn : KN) : Prop where
  names : env.scope.names = kn
  kind : env.scope.kind = .function
  glob : env.globals = mainGlobals
  blt : env.builtins = builtinsNs
  cells : ∀ y, kn.lookup y = some .cell → (env.cells.lookup y).isSome = true
theorem EOk.kindOf {env : Env} {kn : KN} (E : EOk env kn) (x : Str) : env.kindOf x = kn.lookup x := by rw [← E.names]; rfl
noncomputable def RV (c : Cfg) (V : View) (F : Addr) (i : Nat) : LV → Value → Prop
  | .undef, _ => True
  | .frz t, v => Is c V t v
  | .own l, v => ∃ a vs n, v = .ref a ∧ V a = some (.own F i (lstO vs n)) ∧ IsL c V l vs
  | .lock l, v => ∃ a G j vs n, v = .ref a ∧ (G ≠ F ∧ j = i) ∧ V a = some (.own G j (lstO vs n)) ∧ IsL c V l vs
  | .ownd ks l, v => ∃ a es n, v = .ref a ∧ (a == sysModules) = false ∧ V a = some (.own F i (dictOf es n)) ∧ KeysAre c.w es ks ∧ ks.Nodup ∧ IsL c V l (es.map (·.val))
  | .owndl ks ls, v => ∃ a es n, v = .ref a ∧ (a == sysModules) = false ∧ V a = some (.own F i (dictOf es n)) ∧ KeysAre c.w es ks ∧ ks.Nodup ∧ ks.length = ls.length ∧
      ∀ j l, ls[j]? = some l → ∃ b vs m, (es.map (·.val))[j]? = some (.ref b) ∧ V b = some (.own F (i + 1000 * (j + 1)) (lstO vs m)) ∧ IsL c V l vs
  | .ownv k i' t, v => ∃ x dx kv iv tv es n, v = .ref x ∧ V x = some (.frz (instObj c.VC dx)) ∧ V dx = some (.own F i (dictOf es n)) ∧ VecDict kv iv tv (dictOf es n) ∧ Is c V k kv ∧ Is c V i' iv ∧ Is c V t tv
noncomputable def NameAt (V : View) (F : Addr) (env : Env) (i : Nat) (x : Str) (v : Value) : Prop :=
  (env.kindOf x = some .local ∧ ∃ G m, V env.locals = some (.ns G m) ∧ m x = some v) ∨
  (env.kindOf x = some .cell ∧ ∃ a, env.cells.lookup x = some a ∧ V a = some (.cl F i (some v)))
structure EC (c : Cfg) (V : View) (F : Addr) (env : Env) (tbl : List (Option Str)) (σ : List LV) : Prop where
  len : σ.length = tbl.length
  at_ : ∀ i x lv, tbl[i]? = some (some x) → σ[i]? = some lv → lv ≠ .undef → ∃ v, NameAt V F env i x v ∧ RV c V F i lv v
section
variable {c : Cfg} {A : Around} {V V' : View} {F : Addr} {n : Nat}
theorem RV.gen {i : Nat} (l : VLeF V V') (p : ∀ a G k vs n, k % 1000 = i % 1000 → V a = some (.own G k (lstO vs n)) → V' a = some (.own G k (lstO vs n))) (q : ∀ a G es n, V a = some (.own G i (dictOf es n)) → V' a = some (.own G i (dictOf es n))) {lv : LV} {v : Value} (h : RV c V F i lv v) : RV c V' F i lv v := by
  cases lv with
  | undef => exact h
  | frz t => exact Is.mono l _ _ h
  | own _ => exact h.imp fun a h => h.imp fun vs h => h.imp fun n h => ⟨h.1, p _ _ _ _ _ rfl h.2.1, IsL.mono l _ _ h.2.2⟩
  | lock _ => exact h.imp fun a h => h.imp fun G h => h.imp fun j h => h.imp fun vs h => h.imp fun n h => ⟨h.1, h.2.1, p _ _ _ _ _ (by rw [h.2.1.2]) h.2.2.1, IsL.mono l _ _ h.2.2.2⟩
  | ownd _ _ => exact h.imp fun a h => h.imp fun es h => h.imp fun n h => ⟨h.1, h.2.1, q _ _ _ _ h.2.2.1, h.2.2.2.1, h.2.2.2.2.1, IsL.mono l _ _ h.2.2.2.2.2⟩
  | owndl _ _ => exact h.imp fun a h => h.imp fun es h => h.imp fun n h => ⟨h.1, h.2.1, q _ _ _ _ h.2.2.1, h.2.2.2.1, h.2.2.2.2.1, h.2.2.2.2.2.1, fun j l' hl => (h.2.2.2.2.2.2 j l' hl).imp fun b h => h.imp fun vs h => h.imp fun m h => ⟨h.1, p _ _ _ _ _ (Nat.add_mul_mod_self_left ..) h.2.1, IsL.mono l _ _ h.2.2⟩⟩
  | ownv _ _ _ => exact h.imp fun x h => h.imp fun dx h => h.imp fun kv h => h.imp fun iv h => h.imp fun tv h => h.imp fun es h => h.imp fun n h => ⟨h.1, l _ _ h.2.1 rfl, q _ _ _ _ h.2.2.1, h.2.2.2.1, Is.mono l _ _ h.2.2.2.2.1, Is.mono l _ _ h.2.2.2.2.2.1, Is.mono l _ _ h.2.2.2.2.2.2⟩
theorem RV.mono (l : VLe V V') {i : Nat} {lv : LV} {v : Value} (h : RV c V F i lv v) : RV c V' F i lv v := h.gen l.toF (fun _ _ _ _ _ _ => l _ _) fun _ _ _ _ => l _ _
theorem NameAt.mono (l : VLe V V') {env : Env} {i : Nat} {x : Str} {v : Value} (h : NameAt V F env i x v) : NameAt V' F env i x v := by
  rcases h with ⟨a, G, m, b, d⟩ | ⟨a, q, b, d⟩
  · exact .inl ⟨a, G, m, l _ _ b, d⟩
  · exact .inr ⟨a, q, b, l _ _ d⟩
theorem EC.mono (l : VLe V V') {env : Env} {tbl : List (Option Str)} {σ : List LV} (h : EC c V F env tbl σ) : EC c V' F env tbl σ := ⟨h.len, fun i x lv a b d => by
  obtain ⟨v, q1, q2⟩ := h.at_ i x lv a b d
  exact ⟨v, q1.mono l, q2.mono l⟩⟩
theorem name_gives {env : Env} {kn : KN} (Eo : EOk env kn) {i : Nat} {x : Str} {v : Value} (h : NameAt V F env i x v) (hd : (x == ("__debug__" : Str)) = false) (p : Pos) {R : View → Value → Prop} (hR : R V v) : GivesR c A V (eval (.Name x p) env) R := by
  intro s E Q hV hQ
  have fin : Q v s := hQ v V s.heap s.toks (VLe.refl V) hV hR
  rcases h with ⟨a, G, m, b, d⟩ | ⟨a, q, b, d⟩
  · exact wpAny_Name (wpAny_loadName_local Eo.kind a (hV.on.ns b) d fin) hd
  · exact wpAny_Name (wpAny_loadName_cell Eo.kind a b (hV.on.cl d) fin) hd
structure Gl (c : Cfg) (G : Str → Option Value) : Prop where
  gl : ∀ nm v, G nm = some v → c.mg nm = some v
  bl : ∀ b : BI, c.mg b.nm = none ∧ bootBuiltins b.nm = some b.val ∧ b.nm ≠ "__name__"
  isi : c.mg "isinstance" = none ∧ bootBuiltins "isinstance" = some (.builtin "isinstance")
  vc : c.mg "Vector" = some (.ref c.VC)
  vk : keepIn c.K (.ref c.VC) = true
  kp : ∀ nm f, G nm = some (.ref f) → keepIn c.K (.ref f) = true
theorem ne_of_bne {a b : Str} (h : (a != b) = true) : (a == b) = false := by
  simpa [bne] using h
theorem global_gives {env : Env} {kn : KN} (Eo : EOk env kn) {x : Str} {v : Value} (hg : gOk kn x = true) (hm : c.mg x = some v) (p : Pos) : GivesR c A V (eval (.Name x p) env) fun _ w => w = v := by
  intro s E Q hV hQ
  obtain ⟨h1, h2⟩ := Bool.and_eq_true_iff.mp hg
  have hx : env.kindOf x = some .globalImplicit := by rw [Eo.kindOf]; exact eq_of_beq h1
  exact Name_function_global Eo.kind hx (loadGlobal_global (by rw [Eo.glob]; exact hV.mg) hm (hQ v V s.heap s.toks (VLe.refl V) hV rfl)) (ne_of_bne h2)
theorem builtin_gives {env : Env} {kn : KN} (Eo : EOk env kn) {x : Str} {v : Value} (hg : gOk kn x = true) (hm : c.mg x = none) (hb : bootBuiltins x = some v) (hn : x ≠ "__name__") (p : Pos) : GivesR c A V (eval (.Name x p) env) fun _ w => w = v := by
  intro s E Q hV hQ
  obtain ⟨h1, h2⟩ := Bool.and_eq_true_iff.mp hg
  have hx : env.kindOf x = some .globalImplicit := by rw [Eo.kindOf]; exact eq_of_beq h1
  exact Name_function_global Eo.kind hx (loadGlobal_builtin (by rw [Eo.glob]; exact hV.mg) hm (by rw [Eo.blt]; exact hV.mb) ((c.bi x hn).trans hb) (hQ v V s.heap s.toks (VLe.refl V) hV rfl)) (ne_of_bne h2)
theorem keeper_builtin {M : Model} {h : Heap} {f : Value} (hf : ∀ a, f ≠ .ref a) : Looks M h (keeperOf f) .machine := by
  refine Looks.of_pure ?_
  unfold keeperOf
  cases f <;> first | rfl | exact absurd rfl (hf _)
theorem callWith_gives {f : Value} {first : List Value} {as : List Expr} {env : Env} {pos : Pos} {R : View → List Value → Prop} {R' : View → Value → Prop}
    (hne : as.isEmpty = false) (hst : ∀ a ∈ as, ∀ e p, a ≠ .Starred e p)
    (hk : ∀ h, Vw c V h → ∃ k, (k = Keeper.frame ∨ k = Keeper.machine ∨ k = Keeper.boundFrame) ∧ Looks c.M h (keeperOf f) k)
    (ha : GivesR c A V (spliced (backTo pos (starEach as env))) R) (hc : ∀ V' vs, VLe V V' → R V' vs → GivesR c A V' (call f (first ++ vs)) R') :
    GivesR c A V (callWith pos f first (backTo pos (starEach as env)) []) R' := by
  intro s E Q hV hQ
  cases as with
  | nil => cases hne
  | cons a as =>
    have star : ∀ l : List Expr, (∀ a ∈ l, ∀ e p, a ≠ .Starred e p) → (backTo pos (starEach l env)).any (·.1) = false := by
      intro l
      induction l with
      | nil => intro _; rfl
      | cons b l ih =>
        intro h
        have e1 : starEach (b :: l) env = (false, eval b env) :: starEach l env := by
          have := h b (.head _)
          cases b <;> first | rfl | exact absurd rfl (this _ _)
        rw [e1]
        show (false || (backTo pos (starEach l env)).any (·.1)) = false
        rw [ih fun a ha => h a (.tail _ ha)]; rfl
    have e1 : starEach (a :: as) env = (false, eval a env) :: starEach as env := by
      have := hst a (.head _)
      cases a <;> first | rfl | exact absurd rfl (this _ _)
    refine callWith_of (P := fun h => Vw c V h) (by rw [star _ hst]; rfl) hk ?_
    rw [e1]
    refine evalArgs_plain ?_
    have := ha s E (fun vs s₁ => Vw c V s₁.heap ∧ wpAny c.M A (call f (first ++ vs) []) Q E s₁) hV fun vs V1 h1 tk1 l1 hV1 r1 => ⟨⟨hV1.on.sub l1, hV.st, hV.nsx⟩, hc V1 vs l1 r1 _ E Q hV1 fun v V2 h2 tk2 l2 hV2 r2 => hQ v V2 h2 tk2 (l1.trans l2) hV2 r2⟩
    rw [e1] at this
    exact this
end
end Mine
end
section
open PySem PySem.W PySem.Calls PyProof.Rows PySem.Spec PySem.SeqAt
set_option genInjectivity false
set_option tactic.hygienic false
namespace Mine
noncomputable def IsN (c : Cfg) (V : View) (NF : Addr → Cell → Prop) (t : T) (v : Value) : Prop :=
  Is c V t v ∨ ∃ ts a F i vs n, NF a (.own F i (lstO vs n)) ∧ t = .list ts ∧ v = .ref a ∧ V a = some (.own F i (lstO vs n)) ∧ IsL c V ts vs
theorem IsR.n {c : Cfg} {V : View} {t : T} {v : Value} (h : IsR c V t v) : IsN c V (fun _ _ => True) t v :=
  h.imp id fun ⟨ts, a, F, i, vs, n, e⟩ => ⟨ts, a, F, i, vs, n, trivial, e⟩
structure Iter (c : Cfg) (A : Around) (V : View) (NF : Addr → Cell → Prop) (I : Addr) (items : List T) (fp : List Addr) (P : Nat → Value → Prop) (St : Nat → Heap → Prop) : Prop where
  w : Walks c.prog c.w A I fp [I] items.length P St
  fpI : ∀ b ∈ fp, b = I ∨ (∃ o, V b = some (.frz o)) ∨ ∃ F j o, NF b (.own F j o) ∧ V b = some (.own F j o)
  live : ∀ i h, St i h → ∃ o, h.get? I = some o ∧ (o.cls = .type "list_iterator" ∨ o.cls = .type "range_iterator")
  item : ∀ i v, P i v → ∃ t, items[i]? = some t ∧ Is c V t v
  new : V I = none
theorem Iter.keep {c : Cfg} {A : Around} {V V1 V2 : View} {NF : Addr → Cell → Prop} {I : Addr} {items : List T} {fp : List Addr} {P : Nat → Value → Prop} {St : Nat → Heap → Prop} (W : Iter c A V NF I items fp P St) {h h' : Heap} {i : Nat} {o : Obj} (hs : St i h) (H : On V1 h) (l : VLe V V1) (H' : On V2 h') (l' : VLe V V2)
    (ho : h.get? I = some o) (ho' : h'.get? I = some o) : St i h' := W.w.frame i h h' hs fun b hb ob e => by
  rcases W.fpI b hb with rfl | ⟨o', e'⟩ | ⟨F, j, o', _, e'⟩
  · rw [ho] at e; (refine some_el e fun qq => ?_; subst qq; clear e); exact ho'
  · have := H.frz (l _ _ e'); rw [this] at e; (refine some_el e fun qq => ?_; subst qq; clear e); exact H'.frz (l' _ _ e')
  · have := H.own (l _ _ e'); rw [this] at e; (refine some_el e fun qq => ?_; subst qq; clear e); exact H'.own (l' _ _ e')
section
variable {c : Cfg} {A : Around} {V V' : View} {F : Addr} {n : Nat}
set_option tactic.hygienic true in
theorem iter_gives (hA : AOk n A) {t : T} {v : Value} {items : List T} {NF : Addr → Cell → Prop} (hi : IsN c V NF t v) (e : iterT t = some items) {s : Shared} {E Q : Value → Shared → Prop} (hV : Vw c V s.heap)
    (hQ : ∀ I fp P St h' tk, Iter c A V NF I items fp P St → St 0 h' → Vw c V h' → items.length ≤ lim → Q (.ref I) { s with heap := h', toks := tk }) : wpAny c.M A (pyIter v) Q E s := by
  unfold iterT at e
  split at e
  · split at e
    · rename_i l hl; obtain rfl := Option.some.inj e
      have key : ∀ (a : Addr) (vs : List Value) (k : Nat), s.heap.get? a = some (lstO vs k) → IsL c V l vs → ((∃ o, V a = some (.frz o)) ∨ ∃ F j o, NF a (.own F j o) ∧ V a = some (.own F j o)) → wpAny c.M A (pyIter (.ref a)) Q E s := by
        intro a vs k hg hl' hva
        have hL := isList_of hg
        have hlt := Heap.lt_size hg
        refine wpAny_pyIter_list hL (hQ s.heap.objs.size _ _ _ _ s.toks ⟨(by have := Walks.list (prog := c.prog) (w := c.w) hA.h s.heap.objs.size a (Nat.ne_of_lt hlt) vs.toArray; rw [show vs.toArray.size = l.length from by rw [← hl'.length]; exact List.size_toArray] at this; exact this), ?_, ?_, ?_, hV.on.fresh (Nat.le_refl _)⟩ ?_ (hV.mono fun b o e => Heap.get?_push_of_some _ e) hl)
        · intro b hb
          rcases List.mem_cons.mp hb with rfl | hb
          · exact .inl rfl
          · rcases List.mem_cons.mp hb with rfl | hb
            · exact .inr hva
            · cases hb
        · rintro i h ⟨⟨o, ho, hq⟩, _⟩; exact ⟨o, ho, .inl hq.1⟩
        · intro i v hp
          have hp' : vs[i]? = some v := by simpa using hp
          have hlt : i < vs.length := (List.getElem?_eq_some_iff.mp hp').1
          obtain ⟨v', q1, q2⟩ := hl'.get i (l[i]'(by rw [← hl'.length]; exact hlt)) (by simp)
          rw [hp'] at q1; (refine some_el q1 fun qq => ?_; subst qq; clear q1)
          exact ⟨_, by simp, q2⟩
        · exact ⟨⟨_, Heap.get?_push_size _ rfl, rfl, rfl⟩, hL.push _⟩
      rcases hi with ⟨a, vs, k, rfl, hv, hl'⟩ | ⟨ts, a, G, j, vs, k, hnf, e', rfl, hv, hl'⟩
      · exact key a vs k (hV.on.frz hv) hl' (.inl ⟨_, hv⟩)
      · cases e'; exact key a vs k (hV.on.own hv) hl' (.inr ⟨_, _, _, hnf, hv⟩)
    · exact none_el e
  · split at e
    · rename_i a b k q; (refine some_el e fun qq => ?_; subst qq; clear e)
      simp only [Bool.and_eq_true, decide_eq_true_eq] at q
      obtain ⟨r, t, u, w, rfl, hv⟩ : Is c V (.rng a b k) v := by
        rcases hi with hi | ⟨_, _, _, _, _, _, _, e, _⟩
        · exact hi
        · cases e
      refine wpAny_pyIter_range (hV.on.frz hv) (rng_small q.1.1.1 q.1.1.2 q.1.2.1 q.1.2.2) ?_
      have hn : (((rngL a b k).map T.int).length) = rngN a b k := by simp [rngL]
      refine hQ s.heap.objs.size _ _ _ _ s.toks ⟨(by rw [hn]; exact Walks.bound (Walks.range hA.h s.heap.objs.size a k (rngN a b k))), ?_, ?_, ?_, hV.on.fresh (Nat.le_refl _)⟩ ?_ (hV.mono fun b o e => Heap.get?_push_of_some _ e) (by rw [hn]; exact q.2)
      · intro b hb
        rcases List.mem_cons.mp hb with rfl | hb
        · exact .inl rfl
        · cases hb
      · intro i h st; exact ⟨_, st, .inr rfl⟩
      · rintro i v ⟨hi, t, rfl⟩
        exact ⟨.int (a + (i : Nat) * k), by simp [rngL, hi], _, rfl⟩
      · show IsRangeIter _ _ _ _ _
        have := Heap.get?_push_size s.heap (o := { cls := .type "range_iterator", data := .fields #[rawInt a, rawInt (Builtin.Range.rangeSize a b k), rawInt k] }) rfl
        rw [rng_size q.1.2.1] at this
        simpa [IsRangeIter, rng_size q.1.2.1] using this
    · exact none_el e
  · exact none_el e
theorem closure_ok {env : Env} : ∀ (names : List (Str × NameKind)) (acc : List (Str × Addr)),
    (∀ y ∈ names, y.2 = .free → (env.cells.lookup y.1).isSome = true) →
    ∃ cl, (forIn names acc fun x cs => (match x with | (name, kind) => if kind == .free then do let a ← cellOf env name; pure (ForInStep.yield ((name, a) :: cs)) else pure (ForInStep.yield cs) : Sem (ForInStep (List (Str × Addr))))) = pure cl ∧
      (∀ n a, cl.lookup n = some a → ((n, NameKind.free) ∈ names ∧ env.cells.lookup n = some a) ∨ acc.lookup n = some a) ∧
      ∀ n, ((n, NameKind.free) ∈ names ∨ (acc.lookup n).isSome = true) → (cl.lookup n).isSome = true := by
  intro names
  induction names with
  | nil => intro acc _; exact ⟨acc, rfl, fun n a h => .inr h, fun n h => h.elim (fun h => by cases h) id⟩
  | cons y r ih =>
    intro acc h
    obtain ⟨nm, k⟩ := y
    by_cases hk : (k == NameKind.free) = true
    · have hk' : k = .free := eq_of_beq hk
      refine Classical.byContradiction fun hCC => ?_
      subst hk'
      obtain ⟨a, ha⟩ := Option.isSome_iff_exists.mp (h _ (.head _) rfl)
      refine xa_1_3 (ih ((nm, a) :: acc) fun y hy => h y (.tail _ hy)) fun cl e hcl hcs => ?_
      refine hCC ?_
      clear hCC
      refine ⟨cl, ?_, fun n b hb => ?_, fun n hn => hcs n ?_⟩
      · rw [List.forIn_cons]
        simp only [hk, if_true, cellOf, ha]
        exact e
      · rcases hcl n b hb with ⟨h1, h2⟩ | h1
        · exact .inl ⟨.tail _ h1, h2⟩
        · rw [List.lookup_cons] at h1
          by_cases hn : (n == nm) = true
          · rw [hn] at h1
            have := eq_of_beq hn
            subst this
            (refine some_el h1 fun qq => ?_; subst qq; clear h1)
            exact .inl ⟨.head _, ha⟩
          · simp only [hn] at h1
            exact .inr h1
      · rw [List.lookup_cons]
        by_cases hq : (n == nm) = true
        · right; rw [hq]; rfl
        · rcases hn with hn | hn
          · rcases List.mem_cons.mp hn with e' | hn
            · cases e'; exact absurd (beq_self_eq_true _) hq
            · exact .inl hn
          · right; simp only [hq]; exact hn
    · obtain ⟨cl, e, hcl, hcs⟩ := ih acc fun y hy => h y (.tail _ hy)
      refine ⟨cl, ?_, fun n b hb => ?_, fun n hn => hcs n ?_⟩
      · rw [List.forIn_cons]
        simp only [hk]
        exact e
      · rcases hcl n b hb with ⟨h1, h2⟩ | h1
        · exact .inl ⟨.tail _ h1, h2⟩
        · exact .inr h1
      · rcases hn with hn | hn
        · rcases List.mem_cons.mp hn with e' | hn
          · cases e'; exact absurd rfl hk
          · exact .inl hn
        · exact .inr hn
theorem mem_of_look {α β : Type} [BEq α] [LawfulBEq α] : ∀ {l : List (α × β)} {a : α} {b : β}, l.lookup a = some b → (a, b) ∈ l
  | (x, y) :: r, a, b, h => by
    rw [List.lookup_cons] at h
    by_cases hx : (a == x) = true
    · rw [hx] at h; (refine some_el h fun qq => ?_; subst qq; clear h); rw [eq_of_beq hx]; exact .head _
    · simp only [hx] at h; exact .tail _ (mem_of_look h)
theorem closure_of {scope : Scope} {env : Env} (h : ∀ y ∈ scope.names, y.2 = .free → (env.cells.lookup y.1).isSome = true) :
    ∃ cl, closureFor scope env = pure cl ∧ ∀ y a, scope.names.lookup y = some .free → env.cells.lookup y = some a → cl.lookup y = some a := by
  refine Classical.byContradiction fun hCC => ?_
  refine xa_1_3 (closure_ok scope.names [] h) fun cl e h1 h2 => ?_
  refine hCC ?_
  clear hCC
  refine ⟨cl, ?_, fun y a hy ha => ?_⟩
  · unfold closureFor
    show (forIn scope.names [] _ >>= _) = _
    have e' := congrArg (fun t => t >>= fun cs => (pure cs : Sem _)) e
    exact e'
  · obtain ⟨b, hb⟩ := Option.isSome_iff_exists.mp (h2 y (.inl (mem_of_look hy)))
    rcases h1 y b hb with ⟨_, q⟩ | q
    · rw [ha] at q; (refine some_el q fun qq => ?_; subst qq; clear q); exact hb
    · exact none_el q
noncomputable abbrev ifsT (ifs : List Expr) (env : Env) : Sem Bool := forIn ifs true fun c r => if r = true then do let ok ← isTrue c env (eval c env); pure (ForInStep.yield ok) else pure (ForInStep.yield r)
theorem twice {P Q : Prop} (f : P → P → Q) (p : P) : Q := f p p
theorem comp_block (hA : AOk n A) {elt iter : Expr} {x : Str} {px : Pos} {ifs : List Expr} {scope : Scope} {cl : List (Str × Addr)} {pos : Pos} {env : Env} {s₂ : Shared} {E : Value → Shared → Prop}
    {NF : Addr → Cell → Prop} {items rs : List T} {test : T → Option Bool} {f : T → Option T} {I : Addr} {fp : List Addr} {P : Nat → Value → Prop} {St : Nat → Heap → Prop} {RR : Value → Addr → Result → Shared → Prop}
    (run : compRun test f items = some rs) (hV : Vw c V s₂.heap) (W : Iter c A V NF I items fp P St) (hst : St 0 s₂.heap) (hlen : items.length ≤ lim)
    (hcell : ∀ y ∈ scope.names, y.2 ≠ .cell) (hkind : scope.kind = .function) (hx : scope.names.lookup x = some .local)
    (ht : ∀ C V1 t v b m, test t = some b → VLe V V1 → V1 C = some (.ns C m) → m x = some v → Is c V1 t v → GivesR c A V1 (ifsT ifs (compEnvC scope cl C env)) fun _ ok => ok = b)
    (he : ∀ C V1 t v r m, f t = some r → VLe V V1 → V1 C = some (.ns C m) → m x = some v → Is c V1 t v → Gives c A V1 (eval elt (compEnvC scope cl C env)) r)
    (hRR : ∀ D C h' tk V1 vs k m, VLe V V1 → Vw c V1 h' → V1 D = some (.own C 0 (lstO vs k)) → V1 C = some (.ns C m) → V D = none → V C = none → D ≠ C → IsL c V1 rs vs → (D == sysModules) = false → RR (.ref D) C (.ok .next) { s₂ with heap := h', toks := tk }) :
    wpAny c.M A (newList []) (fun acc s₃ => wpAny c.M A (newFunctionEnv scope env.globals cl [] env.qual none .none (some env)) (fun cenv s₄ =>
      codeAny c.M A (.compStart (.ListComp elt [⟨.Name x px, iter, ifs, 0⟩] scope pos) 0 (.ref I) acc { cenv with scope := relabel scope env }) (RR acc cenv.locals) s₄) E s₃) E s₂ := by
  refine wpAny_newObj_type (wpAny_newFunctionEnv hcell (by intro y hy; simp at hy) (fun h₁ hns₁ hsb₁ => ?_) hkind)
  dsimp only at hns₁ hsb₁ ⊢
  have hVD := hV.push (cl := .own (s₂.heap.objs.size + 1) 0 (lstO [] 0)) (o := { cls := .type "list", dict := none, data := .seq ([] : List Value).toArray }) rfl rfl
  generalize hH2 : s₂.heap.push { cls := .type "list", dict := none, data := .seq ([] : List Value).toArray } = H2 at hns₁ hsb₁ hVD ⊢
  have hC : H2.objs.size = s₂.heap.objs.size + 1 := by rw [← hH2, Heap.size_push]
  rw [hC] at hns₁ hsb₁ ⊢
  have vD : V s₂.heap.objs.size = none := hV.on.fresh (Nat.le_refl _)
  have vC : V (s₂.heap.objs.size + 1) = none := hV.on.fresh (Nat.le_succ _)
  refine xa_1_2 (W.live 0 _ hst) fun oI hoI _ => ?_
  have hI := Heap.lt_size hoI
  have hDs : (s₂.heap.objs.size == sysModules) = false := by
    exact beq_eq_false_iff_ne.mpr (Nat.ne_of_gt (modules_low hV.lim))
  have hID : I ≠ s₂.heap.objs.size := Nat.ne_of_lt hI
  have hIC : I ≠ s₂.heap.objs.size + 1 := Nat.ne_of_lt (Nat.lt_succ_of_lt hI)
  have hDC : s₂.heap.objs.size ≠ s₂.heap.objs.size + 1 := Nat.ne_of_lt (Nat.lt_succ_self _)
  generalize hDe : s₂.heap.objs.size = D at *
  generalize hCe : D + 1 = C at *
  have hVC := hVD.push (cl := .ns C fun _ => none) (o := { cls := .type "dict", data := .dict #[] }) ⟨#[], 0, rfl, fun _ he => by simp at he, fun _ => rfl⟩ rfl
  rw [hC] at hVC
  refine Classical.byContradiction fun hCC => ?_
  refine xa_3_4 (hns₁) fun oC esC epC c1 c2 c3 c4 => ?_
  try clear hns₁
  refine hCC ?_
  clear hCC
  have hVC1 := hVC.upd (a := C) (cl := .ns C fun _ => none) (View.set_self ..) (F := C) rfl hsb₁.extBut c1 ⟨esC, epC, c2, c3, c4⟩ (.inr ⟨_, _, rfl⟩)
  have hgI : h₁.get? I = some oI := hsb₁.extBut I oI hIC (Heap.get?_push_of_some _ (hH2 ▸ Heap.get?_push_of_some _ hoI))
  have vI1 : (View.set (View.set (View.set V D (.own C 0 (lstO [] 0))) C (.ns C fun _ => none)) C (.ns C fun _ => none)) I = none := by
    rw [View.set_ne _ _ hIC, View.set_ne _ _ hIC, View.set_ne _ _ hID]; exact W.new
  have hV1 := hVC1.add (a := I) (cl := .own C 1 oI) vI1 hgI rfl
  generalize hVe : View.set (View.set (View.set (View.set V D (.own C 0 (lstO [] 0))) C (.ns C fun _ => none)) C (.ns C fun _ => none)) I (.own C 1 oI) = V1 at hV1
  have l1 : VLe V V1 := by
    rw [← hVe]
    exact VLe.setOf (VLe.setOf (VLe.setOf (VLe.set vD) vC) vC) W.new
  have v1D : V1 D = some (.own C 0 (lstO [] 0)) := by rw [← hVe, View.set_ne _ _ (Ne.symm hID), View.set_ne _ _ hDC, View.set_ne _ _ hDC, View.set_self]
  have v1C : V1 C = some (.ns C fun _ => none) := by rw [← hVe, View.set_ne _ _ (Ne.symm hIC), View.set_self]
  have v1I : V1 I = some (.own C 1 oI) := by rw [← hVe, View.set_self]
  have hst₁ : St 0 h₁ := W.keep hst hV.on (VLe.refl V) hV1.on l1 hoI hgI
  clear hVe hVC hVD hVC1 vI1
  refine twice (fun k1 k2 => codeAny_compStart_list k1 (W.w.self 0 _ _ _ hst₁ k2)) ?_
  refine codeAny_compLoop_tests (fun k s' => ∃ h tk V1 done rest rsd rsr vs e m oI, s' = { s₂ with heap := h, toks := tk } ∧ items = done ++ rest ∧ k = rest.length + 1 ∧ compRun test f rest = some rsr ∧ rs = rsd ++ rsr ∧
    Vw c V1 h ∧ VLe V V1 ∧ V1 D = some (.own C 0 (lstO vs e)) ∧ V1 C = some (.ns C m) ∧ V1 I = some (.own C 1 oI) ∧ IsL c V1 rsd vs ∧ St done.length h ∧ vs.length ≤ done.length) ?_ (items.length + 1)
    ⟨h₁, _, V1, [], items, [], rs, [], 0, _, oI, rfl, rfl, rfl, run, rfl, hV1, l1, v1D, v1C, v1I, rfl, hst₁, Nat.le_refl _⟩
  intro k s' hinv
  refine Classical.byContradiction fun hCC => ?_
  obtain ⟨h, tk, U, done, rest, rsd, rsr, vs, e, m, oI', rfl, hit, rfl, hrun, hrs, hU, lU, uD, uC, uI, his, hst', hvl⟩ := hinv
  refine hCC ?_
  clear hCC
  cases rest with
  | nil =>
    (refine some_el hrun fun qq => ?_; subst qq; clear hrun)
    rw [List.append_nil] at hit hrs
    subst hit hrs
    refine W.w.done _ _ _ hst' fun h₂ tk₂ hk => ?_
    have hU' : On (fun b => if b = I then none else U b) h₂ := fun a cl' q => by
      replace q : (if a = I then none else U a) = some cl' := q
      by_cases ha : a = I
      · rw [if_pos ha] at q; exact none_el q
      · rw [if_neg ha] at q
        refine xa_1_2 (hU.on a cl' q) fun o ho hok => ?_
        exact ⟨o, hk a o (by simpa using ha) ho, hok⟩
    have lU' : VLe V (fun b => if b = I then none else U b) := fun a cl' q => by
      have ha : a ≠ I := by rintro rfl; rw [W.new] at q; exact none_el q
      show (if a = I then none else U a) = _
      rw [if_neg ha]; exact lU a cl' q
    exact hRR D C h₂ tk₂ _ vs e m lU' ⟨hU', fun a o q => lU' a _ (hV.st a o q), by obtain ⟨L, G, m', q⟩ := hV.nsx; exact ⟨L, G, m', lU' _ _ q⟩⟩ (by simpa [Ne.symm hID] using uD) (by simpa [Ne.symm hIC] using uC) vD vC hDC
      (his.mono fun a cl' q t => by
        have ha : a ≠ I := by rintro rfl; rw [uI] at q; (refine some_el q fun qq => ?_; subst qq; clear q); cases t
        show (if a = I then none else U a) = _
        rw [if_neg ha]; exact q) hDs
  | cons t rest =>
    have hlt : done.length < items.length := by rw [hit, List.length_append, List.length_cons]; omega
    refine W.w.item done.length _ _ _ hlt hst' fun v h₂ tk₂ hP hst₂ hk => ?_
    refine xa_1_2 (W.item _ _ hP) fun t' ht1 ht2 => ?_
    have htt : t' = t := by
      rw [hit, List.getElem?_append_right (Nat.le_refl _), Nat.sub_self] at ht1
      simpa using ht1.symm
    subst htt
    refine xa_1_2 (W.live _ _ hst₂) fun oI₂ hoI₂ _ => ?_
    have hU₂ := hU.upd (a := I) (cl := .own C 1 oI₂) uI (F := C) rfl (h' := h₂) (fun b o hb q => hk b o (by simpa using hb) q) hoI₂ rfl (.inl (by intro _ _ q; cases q))
    have lU₂ : VLe V (U.set I (.own C 1 oI₂)) := lU.setOf W.new
    have u2C : (U.set I (.own C 1 oI₂)) C = some (.ns C m) := by rw [View.set_ne _ _ (Ne.symm hIC)]; exact uC
    have u2D : (U.set I (.own C 1 oI₂)) D = some (.own C 0 (lstO vs e)) := by rw [View.set_ne _ _ (Ne.symm hID)]; exact uD
    have f2 : VLeF U (U.set I (.own C 1 oI₂)) := VLeF.set uI rfl
    refine wpAny_assign_Name (wpAny_storeName_local (lookup_relabel_local hx) (hU₂.on.ns u2C) (fun h₃ hn₃ hs₃ => ?_) (by simp [relabel, hkind]))
    refine Classical.byContradiction fun hCC => ?_
    refine xa_3_4 (hn₃) fun oC₃ es₃ ep₃ d1 d2 d3 d4 => ?_
    try clear hn₃
    refine hCC ?_
    clear hCC
    have hU₃ := hU₂.upd (a := C) (cl := .ns C fun y => if y = x then some v else m y) u2C (F := C) rfl hs₃.extBut d1 ⟨es₃, ep₃, d2, d3, d4⟩ (.inr ⟨_, _, rfl⟩)
    have lU₃ := lU₂.setOf (cl := .ns C fun y => if y = x then some v else m y) vC
    have f3 : VLeF (U.set I (.own C 1 oI₂)) _ := VLeF.set (cl := .ns C fun y => if y = x then some v else m y) u2C rfl
    generalize hU3e : (U.set I (.own C 1 oI₂)).set C (.ns C fun y => if y = x then some v else m y) = U₃ at hU₃ lU₃ f3
    have u3C : U₃ C = some (.ns C fun y => if y = x then some v else m y) := by rw [← hU3e, View.set_self]
    have u3D : U₃ D = some (.own C 0 (lstO vs e)) := by rw [← hU3e, View.set_ne _ _ hDC]; exact u2D
    have u3I : U₃ I = some (.own C 1 oI₂) := by rw [← hU3e, View.set_ne _ _ hIC, View.set_self]
    have hst₃ : St (done.length + 1) h₃ := W.keep hst₂ hU₂.on lU₂ hU₃.on lU₃ hoI₂ (hU₃.on.own u3I)
    have hiv : Is c U₃ t' v := ht2.mono lU₃.toF
    simp only [compRun, Option.bind_eq_bind, Option.bind_eq_some_iff] at hrun
    refine xa_1_2 (hrun) fun b hb hrun => ?_
    refine ht C U₃ t' v b _ hb lU₃ u3C (by simp) hiv _ _ _ hU₃ fun ok V₄ h₄ tk₄ l₄ hV₄ hok => ?_
    subst hok
    have hst₄ : St (done.length + 1) h₄ := W.keep hst₃ hU₃.on lU₃ hV₄.on (lU₃.trans l₄) (hU₃.on.own u3I) (hV₄.on.own (l₄ _ _ u3I))
    cases ok with
    | false =>
      simp only [Bool.false_eq_true, if_false] at hrun ⊢
      exact ⟨_, Nat.lt_succ_self _, h₄, tk₄, V₄, done ++ [t'], rest, rsd, rsr, vs, e, _, oI₂, rfl, by rw [hit]; simp, rfl, hrun, hrs, hV₄, lU₃.trans l₄, l₄ _ _ u3D, l₄ _ _ u3C, l₄ _ _ u3I, ((his.mono f2).mono f3).mono l₄.toF, by simpa using hst₄, by simp; omega⟩
    | true =>
      simp only [if_true, Option.bind_eq_some_iff] at hrun ⊢
      refine Classical.byContradiction fun hCC => ?_
      obtain ⟨r, hr, rs', hrs', q⟩ := hrun
      try clear hrun
      refine hCC ?_
      clear hCC
      (refine some_el q fun qq => ?_; subst qq; clear q)
      refine he C V₄ t' v r _ hr (lU₃.trans l₄) (l₄ _ _ u3C) (by simp) (hiv.mono l₄.toF) _ _ _ hV₄ fun y V₅ h₅ tk₅ l₅ hV₅ hy => ?_
      have u5D := l₅ _ _ (l₄ _ _ u3D)
      refine wpAny_list_append_plain (items := vs.toArray) ⟨e, hV₅.on.own u5D⟩ (fun h₆ hp₆ hs₆ => ?_) (by rw [List.size_toArray]; have := lim_line; omega)
      obtain ⟨e₆, hp₆⟩ := hp₆
      have hV₆ := hV₅.upd (a := D) (cl := .own C 0 (lstO (vs ++ [y]) e₆)) u5D (F := C) rfl hs₆.extBut (o := lstO (vs ++ [y]) e₆) (by rw [hp₆]; simp) rfl (.inl (by intro _ _ q; cases q))
      have f6 : VLeF V₅ _ := VLeF.set (cl := .own C 0 (lstO (vs ++ [y]) e₆)) u5D rfl
      refine ⟨_, Nat.lt_succ_self _, h₆, tk₅, _, done ++ [t'], rest, rsd ++ [r], rs', vs ++ [y], e₆, (fun y => if y = x then some v else m y), oI₂, rfl, by rw [hit]; simp, rfl, hrs', by rw [hrs]; simp, hV₆, ((lU₃.trans l₄).trans l₅).setOf vD, View.set_self .., ?_, ?_, ?_, ?_, by simp; omega⟩
      · rw [View.set_ne _ _ (Ne.symm hDC)]; exact l₅ _ _ (l₄ _ _ u3C)
      · rw [View.set_ne _ _ hID]; exact l₅ _ _ (l₄ _ _ u3I)
      · exact IsL.append ((((his.mono f2).mono f3).mono l₄.toF).mono (l₅.toF.trans f6)) (.one (hy.mono f6))
      · have u6I : (V₅.set D (.own C 0 (lstO (vs ++ [y]) e₆))) I = some (.own C 1 oI₂) := by rw [View.set_ne _ _ hID]; exact l₅ _ _ (l₄ _ _ u3I)
        have := W.keep hst₄ hV₄.on (lU₃.trans l₄) hV₆.on (((lU₃.trans l₄).trans l₅).setOf vD) (hV₄.on.own (l₄ _ _ u3I)) (hV₆.on.own u6I)
        simpa using this
end
end Mine
end
section
open PySem PySem.W PySem.Calls PyProof.Rows PySem.Spec PySem.SeqAt
set_option genInjectivity false
set_option tactic.hygienic false
namespace Mine
section
variable {G : Str → Option Value} {kn : KN} {tbl : List (Option Str)} {x : Expr}
theorem notSet {i : Expr} (h : isSetD i = false) (z : Value) (env : Env) : foldedSetIterable i env z = pure z := by
  cases i <;> first | rfl | cases h
theorem mE_none_el  {C : Prop} (h : mE G (.none) kn tbl x = true) (f : ∀ k p, x = .Constant .none k p → C) : C := by
  refine vConst_el (show x_none x = true from h) fun c k p q h => ?_
  cases c with
  | none => exact f k p q
  | _ => exact ff_el h
theorem mE_bool_el {b : Bool} {C : Prop} (h : mE G (.bool b) kn tbl x = true) (f : ∀ k p, x = .Constant (.bool b) k p → C) : C := by
  refine vConst_el (show x_bool b x = true from h) fun c k p q h => ?_
  cases c with
  | bool b' => exact f k p (by rw [q, eq_of_beq h])
  | _ => exact ff_el h
theorem mE_int_el {b : Int} {C : Prop} (h : mE G (.int b) kn tbl x = true) (f : ∀ k p, x = .Constant (.int b) k p → C) : C := by
  refine vConst_el (show x_int b x = true from h) fun c k p q h => ?_
  cases c with
  | int b' => exact f k p (by rw [q, eq_of_beq h])
  | _ => exact ff_el h
theorem mE_str_el {b : Str} {C : Prop} (h : mE G (.str b) kn tbl x = true) (f : ∀ k p, x = .Constant (.str b) k p → C) : C := by
  refine vConst_el (show x_str b x = true from h) fun c k p q h => ?_
  cases c with
  | str b' => exact f k p (by rw [q, eq_of_beq h])
  | _ => exact ff_el h
theorem mE_var_el {i : Nat} {C : Prop} (h : mE G (.var i) kn tbl x = true) (f : ∀ y p, x = .Name y p → vOk kn tbl i y = true → C) : C := vName_el (show x_var kn tbl i x = true from h) f
set_option tactic.hygienic true in
theorem mE_gint_el {nm : Str} {i : Int} {C : Prop} (h : mE G (.gint nm i) kn tbl x = true) (f : ∀ p t, x = .Name nm p → gOk kn nm = true → G nm = some (.int i t) → C) : C := by
  refine vName_el (show x_gint G kn nm i x = true from h) fun y p q h => ?_
  have h3 := (bt (bt h).2).2
  split at h3
  · rename_i j t z; exact f p t (by rw [q, eq_of_beq (bt h).1]) (bt (bt h).2).1 (by rw [z, eq_of_beq h3])
  · exact ff_el h3
theorem mE_attr_el {e : ME} {nm : Str} {C : Prop} (h : mE G (.attr e nm) kn tbl x = true) (f : ∀ v p, x = .Attribute v nm p → isCall v = false → mE G e kn tbl v = true → C) : C := vAttr_el (show x_attr (mE G e kn tbl) nm x = true from h) fun v a p q h => f v p (by rw [q, eq_of_beq (bt h).1]) (bn (bt (bt h).2).1) (bt (bt h).2).2
theorem mE_idx_el {e i : ME} {C : Prop} (h : mE G (.idx e i) kn tbl x = true) (f : ∀ v s p, x = .Subscript v s p → isSl s = false → mE G e kn tbl v = true → mE G i kn tbl s = true → C) : C := vSub_el (show x_idx (mE G e kn tbl) (mE G i kn tbl) x = true from h) fun v s p q h => f v s p q (bn (bt h).1) (bt (bt h).2).1 (bt (bt h).2).2
theorem mE_slc_el {e : ME} {lo hi : Option ME} {C : Prop} (h : mE G (.slc e lo hi) kn tbl x = true) (f : ∀ v l u q p, x = .Subscript v (.Slice l u none q) p → isNm v = true → mE G e kn tbl v = true → mO G lo kn tbl l = true → mO G hi kn tbl u = true → C) : C := by
  refine vSub_el (show x_slc (mE G e kn tbl) (mO G lo kn tbl) (mO G hi kn tbl) x = true from h) fun v s p q1 h => ?_
  refine vSlice_el h fun l u st q q2 h => ?_
  have h2 := bt (bt h).2
  exact f v l u q p (by rw [q1, q2, Option.isNone_iff_eq_none.mp (bt h).1]) h2.1 (bt h2.2).1 (bt (bt h2.2).2).1 (bt (bt h2.2).2).2
theorem mE_bin_el {op : Operator} {a b : ME} {C : Prop} (h : mE G (.bin op a b) kn tbl x = true) (f : ∀ l r p, x = .BinOp l op r p → mE G a kn tbl l = true → mE G b kn tbl r = true → C) : C := vBin_el (show x_bin op (mE G a kn tbl) (mE G b kn tbl) x = true from h) fun l op' r p q h => f l r p (by rw [q, eq_of_beq (bt h).1]) (bt (bt h).2).1 (bt (bt h).2).2
theorem mE_cmp_el {op : CmpOp} {a b : ME} {C : Prop} (h : mE G (.cmp op a b) kn tbl x = true) (f : ∀ l r p, x = .Compare l [op] [r] p → mE G a kn tbl l = true → mE G b kn tbl r = true → behindInMarks op r = false → C) : C := vCmp_el (show x_cmp op (mE G a kn tbl) (mE G b kn tbl) x = true from h) fun l ops rs p q h => one_el h fun op' q2 h => one_el h fun r q3 h => f l r p (by rw [q, q2, q3, eq_of_beq (bt h).1]) (bt (bt h).2).1 (bt (bt (bt h).2).2).1 (bn (bt (bt (bt h).2).2).2)
theorem mE_bop_el {op : BoolOp} {l : List ME} {C : Prop} (h : mE G (.bop op l) kn tbl x = true) (f : ∀ vs p, x = .BoolOp op vs p → mL G l kn tbl vs = true → C) : C := vBop_el (show x_bop op (mL G l kn tbl) x = true from h) fun op' vs p q h => f vs p (by rw [q, eq_of_beq (bt h).1]) (bt h).2
theorem mE_not_el {e : ME} {C : Prop} (h : mE G (.not e) kn tbl x = true) (f : ∀ v p, x = .UnaryOp .Not v p → mE G e kn tbl v = true → C) : C := vUn_el (show x_not (mE G e kn tbl) x = true from h) fun op v p q h => f v p (by rw [q, eq_of_beq (bt h).1]) (bt h).2
theorem mE_neg_el {e : ME} {C : Prop} (h : mE G (.neg e) kn tbl x = true) (f : ∀ v p, x = .UnaryOp .USub v p → mE G e kn tbl v = true → C) : C := vUn_el (show x_neg (mE G e kn tbl) x = true from h) fun op v p q h => f v p (by rw [q, eq_of_beq (bt h).1]) (bt h).2
theorem mE_ite_el {t a b : ME} {C : Prop} (h : mE G (.ite t a b) kn tbl x = true) (f : ∀ t' a' b' p, x = .IfExp t' a' b' p → mE G t kn tbl t' = true → mE G a kn tbl a' = true → mE G b kn tbl b' = true → C) : C := vIte_el (show x_ite (mE G t kn tbl) (mE G a kn tbl) (mE G b kn tbl) x = true from h) fun t' a' b' p q h => f t' a' b' p q (bt h).1 (bt (bt h).2).1 (bt (bt h).2).2
theorem mE_list_el {l : List ME} {C : Prop} (h : mE G (.list l) kn tbl x = true) (f : ∀ vs p, x = .List vs p → mL G l kn tbl vs = true → C) : C := vLst_el (show x_list (mL G l kn tbl) x = true from h) f
theorem mE_tup_el {l : List ME} {C : Prop} (h : mE G (.tup l) kn tbl x = true) (f : ∀ vs k p, x = .Tuple vs k p → mL G l kn tbl vs = true → C) : C := vTup_el (show x_tup (mL G l kn tbl) x = true from h) f
theorem mE_dict_el {ks : List Str} {l : List ME} {C : Prop} (h : mE G (.dict ks l) kn tbl x = true) (f : ∀ kvs vs p, x = .Dict kvs vs p → kvs.map keyOf = ks.map some → (ks.Nodup ∧ 0 < ks.length ∧ ks.length ≤ 15 ∧ kvs.length = vs.length) → mL G l kn tbl vs = true → C) : C := vDct_el (show x_dict ks (mL G l kn tbl) x = true from h) fun kvs vs p q h => f kvs vs p q (eq_of_beq (bt h).1) (of_decide_eq_true (bt (bt h).2).1) (bt (bt h).2).2
theorem mE_comp_el {elt it : ME} {cond : Option ME} {C : Prop} (h : mE G (.comp elt it cond) kn tbl x = true) (f : ∀ e y py i ifs sc p, x = .ListComp e [⟨.Name y py, i, ifs, 0⟩] sc p → compOk kn sc y = true → mE G it kn tbl i = true → mE G elt (knC kn sc) (tblC tbl sc y) e = true → (∀ z env, foldedSetIterable i env z = pure z) → mC G cond (knC kn sc) (tblC tbl sc y) ifs = true → C) : C := by
  refine vLc_el (show x_comp kn tbl (mE G elt) (mE G it kn tbl) (mC G cond) x = true from h) fun e gs sc p q1 h => ?_
  refine one_el h fun g q2 h => ?_
  obtain ⟨t, i, ifs, k⟩ := g
  refine vName_el h fun y py q3 h => ?_
  have h1 := bt (bt h).2
  have h2 := bt h1.2
  have h3 := bt h2.2
  have h4 := bt h3.2
  exact f e y py i ifs sc p (by rw [q1, q2, show t = _ from q3, show k = 0 from of_decide_eq_true (bt h).1]) h1.1 h2.1 h3.1 (notSet (bn h4.1)) h4.2
theorem mE_call_el {nm : Str} {f₀ : Addr} {l : List ME} {C : Prop} (h : mE G (.call nm f₀ l) kn tbl x = true) (f : ∀ q as p, x = .Call (.Name nm q) as [] p → gOk kn nm = true → G nm = some (.ref f₀) → mL G l kn tbl as = true → as.isEmpty = false → C) : C := by
  refine vCall_el (show x_call G kn nm f₀ (mL G l kn tbl) x = true from h) fun g as ks p q1 h => ?_
  refine vName_el h fun y q q2 h => ?_
  have h1 := bt (bt h).2
  have h2 := bt h1.2
  have h3 := bt h2.2
  exact f q as p (by rw [q1, q2, emp (bt h).1, eq_of_beq h1.1]) h2.1 (eq_of_beq h3.1) (bt h3.2).1 (bn (bt h3.2).2)
theorem mE_bcall_el {b : BI} {l : List ME} {C : Prop} (h : mE G (.bcall b l) kn tbl x = true) (f : ∀ q as p, x = .Call (.Name b.nm q) as [] p → gOk kn b.nm = true → mL G l kn tbl as = true → as.isEmpty = false → C) : C := by
  refine vCall_el (show x_bcall kn b (mL G l kn tbl) x = true from h) fun g as ks p q1 h => ?_
  refine vName_el h fun y q q2 h => ?_
  have h1 := bt (bt h).2
  have h2 := bt h1.2
  have e1 := eq_of_beq h1.1
  exact f q as p (by rw [q1, q2, emp (bt h).1, e1]) (e1 ▸ h2.1) (bt h2.2).1 (bn (bt h2.2).2)
theorem mE_meth_el {m : MI} {o : ME} {l : List ME} {C : Prop} (h : mE G (.meth m o l) kn tbl x = true) (f : ∀ v ap as p, x = .Call (.Attribute v m.nm ap) as [] p → mE G o kn tbl v = true → mL G l kn tbl as = true → (ap.endLine == p.line) = true → isCall v = false → as.isEmpty = false → as.length < 20 → C) : C := by
  refine vCall_el (show x_meth m (mE G o kn tbl) (mL G l kn tbl) x = true from h) fun g as ks p q1 h => ?_
  refine vAttr_el h fun v y ap q2 h => ?_
  have h1 := bt (bt h).2
  have h2 := bt h1.2
  have h3 := bt h2.2
  have h4 := bt h3.2
  have h5 := bt h4.2
  exact f v ap as p (by rw [q1, q2, emp (bt h).1, eq_of_beq h1.1]) h2.1 h3.1 h4.1 (bn h5.1) (bn (bt h5.2).1) (of_decide_eq_true (bt h5.2).2)
theorem isw_el {w : Str} {g₀ : Expr → Bool} {C : Prop} (h : x_isw w kn g₀ x = true) (f : ∀ q v q' p, x = .Call (.Name "isinstance" q) [v, .Name w q'] [] p → gOk kn "isinstance" = true → gOk kn w = true → isStar v = false → g₀ v = true → C) : C := by
  refine vCall_el h fun g as ks p q1 h => ?_
  refine vName_el h fun y q q2 h => ?_
  refine cns_el h fun v r q3 h => ?_
  refine one_el h fun u q4 h => ?_
  refine vName_el h fun z q' q5 h => ?_
  have h1 := bt (bt h).2
  have h2 := bt h1.2
  have h3 := bt h2.2
  have h4 := bt h3.2
  have e1 := eq_of_beq h1.1
  have e2 := eq_of_beq h2.1
  exact f q v q' p (by rw [q1, q2, q3, q4, q5, emp (bt h).1, e1, e2]) (e1 ▸ h3.1) (e2 ▸ h4.1) (bn (bt h4.2).1) (bt h4.2).2
theorem mE_isv_el {e : ME} {C : Prop} (h : mE G (.isv e) kn tbl x = true) (f : ∀ q v q' p, x = .Call (.Name "isinstance" q) [v, .Name "Vector" q'] [] p → gOk kn "isinstance" = true → gOk kn "Vector" = true → isStar v = false → mE G e kn tbl v = true → C) : C := isw_el (show x_isw "Vector" kn (mE G e kn tbl) x = true from h) f
theorem mE_isl_el {e : ME} {C : Prop} (h : mE G (.isl e) kn tbl x = true) (f : ∀ q v q' p, x = .Call (.Name "isinstance" q) [v, .Name "list" q'] [] p → gOk kn "isinstance" = true → gOk kn "list" = true → isStar v = false → mE G e kn tbl v = true → C) : C := isw_el (show x_isw "list" kn (mE G e kn tbl) x = true from h) f
theorem mE_fstr_el {l : List ME} {C : Prop} (h : mE G (.fstr l) kn tbl x = true) (f : ∀ v₁ v₂ vs p, x = .JoinedStr (v₁ :: v₂ :: vs) p → mF G l kn tbl (v₁ :: v₂ :: vs) = true → C) : C := vJoin_el (show x_fstr (mF G l kn tbl) x = true from h) fun vs p q h => cns_el h fun v₁ r q2 h => cns_el h fun v₂ vs q3 h => f v₁ v₂ vs p (by rw [q, q2, q3]) h
theorem mL_nil {l : List Expr} (h : mL G [] kn tbl l = true) : l = [] := by
  exact List.isEmpty_iff.mp h
theorem mL_cons_el {e : ME} {es : List ME} {l : List Expr} {C : Prop} (h : mL G (e :: es) kn tbl l = true) (f : ∀ v vs, l = v :: vs → (∀ a p, v ≠ .Starred a p) → mE G e kn tbl v = true → mL G es kn tbl vs = true → C) : C :=
  cns_el (show x_cons (mE G e kn tbl) (mL G es kn tbl) l = true from h) fun v vs q k => f v vs q (fun a p z => (by rw [z] at k; cases (bt k).1)) (bt (bt k).2).1 (bt (bt k).2).2
theorem mL_star : ∀ {l : List ME} {as : List Expr}, mL G l kn tbl as = true → ∀ a ∈ as, ∀ e p, a ≠ .Starred e p
  | [], _, h => by rw [mL_nil h]; intro a ha; cases ha
  | _ :: es, _, h => by
    refine mL_cons_el h fun v vs ex h1 _ h2 => ?_
    subst ex
    intro a ha e p
    rcases List.mem_cons.mp ha with rfl | ha
    · exact h1 e p
    · exact mL_star h2 a ha e p
theorem mF_nil {l : List Expr} (h : mF G [] kn tbl l = true) : l = [] := by
  exact List.isEmpty_iff.mp h
theorem mF_cons_el {e : ME} {es : List ME} {l : List Expr} {C : Prop} (h : mF G (e :: es) kn tbl l = true) (f : ∀ v vs, l = v :: vs → mF G es kn tbl vs = true →
    ((∃ w p, v = .FormattedValue w (-1) none p ∧ mE G e kn tbl w = true) ∨ ((∃ s k p, v = .Constant (.str s) k p) ∧ mE G e kn tbl v = true)) → C) : C := by
  refine cns_el (show x_fcons (mE G e kn tbl) (mF G es kn tbl) l = true from h) fun v vs q k => f v vs q (bt k).2 ((Bool.or_eq_true_iff.mp (bt k).1).imp (fun h => ?_) fun h => ⟨?_, (bt h).2⟩)
  · exact vFmt_el h fun w k sp p q h => ⟨w, p, by rw [q, of_decide_eq_true (bt h).1, Option.isNone_iff_eq_none.mp (bt (bt h).2).1], (bt (bt h).2).2⟩
  · have h1 := (bt h).1
    refine vConst_el h1 fun c k p q hc => ?_
    cases c <;> first | exact ⟨_, k, p, q⟩ | exact ff_el hc
end
end Mine
end
section
open PySem PySem.W PySem.Calls PyProof.Rows PySem.Spec PySem.SeqAt
set_option genInjectivity false
set_option tactic.hygienic false
namespace Mine
section
variable {c : Cfg} {A : Around} {V V' : View} {F : Addr} {n : Nat} {G : Str → Option Value} {ct : Addr → List T → Option T}
noncomputable def TOk (c : Cfg) (n : Nat) (ct : Addr → List T → Option T) : Prop := ∀ f args t, ct f args = some t → Con c n (.ref f) args t
noncomputable def GivesL (c : Cfg) (A : Around) (V : View) (t : Sem Value) (rs : List T) : Prop :=
  ∀ (s : Shared) (E Q : Value → Shared → Prop), Vw c V s.heap →
    (∀ a vs k V' h' tk, VLe V V' → Vw c V' h' → V' a = none → h'.get? a = some (lstO vs k) → IsL c V' rs vs → Q (.ref a) { s with heap := h', toks := tk }) → wpAny c.M A t Q E s
theorem GivesL.frz {t : Sem Value} {rs : List T} (h : GivesL c A V t rs) : Gives c A V t (.list rs) := fun s E Q hV hQ =>
  h s E Q hV fun a vs k V' h' tk l hV' hn hg hi => hQ _ _ h' tk (l.trans (VLe.set hn)) (hV'.add (cl := .frz (lstO vs k)) hn hg rfl) ⟨a, vs, k, rfl, View.set_self .., hi.mono (VLe.set hn).toF⟩
noncomputable def OkR (c : Cfg) (r : Bool) (V : View) (t : T) (v : Value) : Prop := IsR c V t v ∧ (r = false → Is c V t v)
theorem Is.ok {t : T} {v : Value} {r : Bool} (h : Is c V t v) : OkR c r V t v := ⟨h.r, fun _ => h⟩
theorem OkR.is {t : T} {v : Value} (h : OkR c false V t v) : Is c V t v := h.2 rfl
noncomputable def OkRL (c : Cfg) (r : Bool) (V : View) (ts : List T) (vs : List Value) : Prop := IsRL c V ts vs ∧ (r = false → IsL c V ts vs)
theorem attrBase {o : Expr} {nm : Str} {env : Env} {w : Sem Value} (h : isCall o = false) : attributeBase o nm env w = w := by
  unfold attributeBase
  split
  · cases h
  · rfl
theorem subscripted_plain {s : Expr} (h : isSl s = false) (a b : Value) : subscripted s false a b = operate [a, b] (getItem a b) := by
  cases s <;> first | rfl | cases h
theorem isTrue_of {x : Expr} {env : Env} {b : Bool} (h : Gives c A V (eval x env) (.bool b)) (he : isTrue x env (eval x env) = (do let v ← eval x env; standAt x.pos; holding [v] (truthy v))) :
    GivesR c A V (isTrue x env (eval x env)) fun _ b' => b' = b := fun s E Q hV hQ => wpAny_isTrue_value (h s E _ hV fun v V1 h1 tk1 l1 hV1 r1 => by
      obtain rfl : v = .bool b := r1
      exact wpAny_truthy_bool (hQ b V1 h1 tk1 l1 hV1 rfl)) he
theorem asB_some {t : T} {b : Bool} (h : asB t = some b) : t = .bool b := by
  cases t <;> first | ((first | exact none_el h | (refine some_el h fun qq => ?_; subst qq; clear h)); rfl) | exact none_el h
theorem evB_bool {e : ME} {σ : List LV} {b : Bool} (h : (do asB (← ev ct false σ e)) = some b) : ev ct false σ e = some (.bool b) := by
  refine xa_1_2 (Option.bind_eq_some_iff.mp h) fun t h1 h2 => ?_
  rw [h1, asB_some h2]
theorem comp_fresh (hA : AOk n A) {elt iter : Expr} {x : Str} {px : Pos} {ifs : List Expr} {scope : Scope} {pos : Pos} {env : Env} {kn : KN} {items rs : List T} {src : T} {test : T → Option Bool} {f : T → Option T}
    (Eo : EOk env kn) (hok : compOk kn scope x = true)
    (hs : ∀ z env, foldedSetIterable iter env z = pure z)
    (hi : GivesR c A V (eval iter env) fun V' v => IsR c V' src v) (hit : iterT src = some items) (run : compRun test f items = some rs)
    (ht : ∀ C cl V1 t v b m, test t = some b → VLe V V1 → V1 C = some (.ns C m) → m x = some v → Is c V1 t v → (∀ y a, scope.names.lookup y = some .free → env.cells.lookup y = some a → cl.lookup y = some a) → GivesR c A V1 (ifsT ifs (compEnvC scope cl C env)) fun _ ok => ok = b)
    (he : ∀ C cl V1 t v r m, f t = some r → VLe V V1 → V1 C = some (.ns C m) → m x = some v → Is c V1 t v → (∀ y a, scope.names.lookup y = some .free → env.cells.lookup y = some a → cl.lookup y = some a) → Gives c A V1 (eval elt (compEnvC scope cl C env)) r) :
    GivesL c A V (eval (.ListComp elt [⟨.Name x px, iter, ifs, 0⟩] scope pos) env) rs := by
  simp only [compOk, Bool.and_eq_true, List.all_eq_true, bne_iff_ne, ne_eq, Bool.or_eq_true, beq_iff_eq] at hok
  refine Classical.byContradiction fun hCC => ?_
  refine ya_7 (hok) fun k1 k2 k3 k4 k5 k6 k7 => ?_
  try clear hok
  refine hCC ?_
  clear hCC
  have hcell : ∀ y ∈ scope.names, y.2 ≠ .cell := fun y hy => k3 y hy
  have hnames : ∀ y ∈ scope.names, y.2 = .local → scope.names.lookup y.1 = some .local := fun y hy h => by
    rcases k4 y hy with h' | h'
    · exact absurd h h'
    · exact h'
  have hfree : ∀ y ∈ scope.names, y.2 = .free → (env.cells.lookup y.1).isSome = true := fun y hy h => by
    rcases k5 y hy with h' | h'
    · exact absurd h h'
    · exact Eo.cells _ h'
  refine xa_1_2 (closure_of hfree) fun cl hclos hcl => ?_
  intro s E Q hV hQ
  rw [eval_ListComp]
  refine wpAny_comprehension_free (use := none) rfl (fun z => hs z env) hclos k1 hnames (hi s E _ hV fun v V1 h1 tk1 l1 hV1 r1 => ?_)
  refine iter_gives hA r1.n hit hV1 fun I fp P St h2 tk2 W hst hV2 hlen => ?_
  refine comp_block (RR := fun acc C => compPost c.M A E none Q acc C) hA run hV2 W hst hlen hcell k1 k2 (fun C V1' t v b m q1 q2 q3 q4 q5 => ht C cl V1' t v b m q1 (l1.trans q2) q3 q4 q5 hcl) (fun C V1' t v r m q1 q2 q3 q4 q5 => he C cl V1' t v r m q1 (l1.trans q2) q3 q4 q5 hcl) ?_
  intro D C h' tk V3 vs k m l3 hV3 v3D v3C vD vC hDC his hDs
  refine ⟨m, hV3.on.ns v3C, fun h'' hs'' => ?_⟩
  have hVf : On (fun b => if b = D ∨ b = C then none else V3 b) h'' := fun a cl' q => by
    replace q : (if a = D ∨ a = C then none else V3 a) = some cl' := q
    by_cases ha : a = D ∨ a = C
    · rw [if_pos ha] at q; exact none_el q
    · rw [if_neg ha] at q
      refine xa_1_2 (hV3.on a cl' q) fun o ho hok => ?_
      exact ⟨o, hs''.extBut a o (fun e => ha (.inr e)) ho, hok⟩
  have lf : VLe V (fun b => if b = D ∨ b = C then none else V3 b) := fun a cl' q => by
    have ha : ¬ (a = D ∨ a = C) := by
      have q' := l1 _ _ q
      rintro (rfl | rfl)
      · rw [vD] at q'; exact none_el q'
      · rw [vC] at q'; exact none_el q'
    show (if a = D ∨ a = C then none else V3 a) = _
    rw [if_neg ha]; exact l3 _ _ (l1 _ _ q)
  refine hQ D vs k (fun b => if b = D ∨ b = C then none else V3 b) h'' tk lf ⟨hVf, fun a o q => lf a _ (hV.st a o q), by obtain ⟨L, G, m', q⟩ := hV.nsx; exact ⟨L, G, m', lf _ _ q⟩⟩ (by simp) (hs''.extBut D _ hDC (hV3.on.own v3D)) (his.mono fun a cl' q t => ?_)
  have ha : ¬ (a = D ∨ a = C) := by
    rintro (rfl | rfl)
    · rw [v3D] at q; (refine some_el q fun qq => ?_; subst qq; clear q); cases t
    · rw [v3C] at q; (refine some_el q fun qq => ?_; subst qq; clear q); cases t
  show (if a = D ∨ a = C then none else V3 a) = _
  rw [if_neg ha]; exact q
theorem look_knC {kn : KN} {y : Str} : ∀ {l : List (Str × NameKind)} {k : NameKind}, (l.map fun (n, k) => if (k == .free && kn.lookup n == some .cell) then (n, .cell) else (n, k)).lookup y = some k →
    ∃ k', l.lookup y = some k' ∧ k = if (k' == .free && kn.lookup y == some .cell) then .cell else k'
  | (n, k') :: r, k, h => by
    rw [List.map_cons] at h
    dsimp only at h
    have e : (if (k' == NameKind.free && kn.lookup n == some .cell) = true then (n, NameKind.cell) else (n, k')) = (n, if (k' == NameKind.free && kn.lookup n == some .cell) = true then .cell else k') := by split <;> rfl
    rw [e, List.lookup_cons] at h
    rw [List.lookup_cons]
    by_cases hy : (y == n) = true
    · rw [hy] at h ⊢
      have := eq_of_beq hy
      subst this
      (refine some_el h fun qq => ?_; subst qq; clear h)
      exact ⟨_, rfl, rfl⟩
    · simp only [hy] at h ⊢
      exact look_knC h
theorem knC_look {kn : KN} {y : Str} : ∀ {l : List (Str × NameKind)} {k' : NameKind}, l.lookup y = some k' →
    (l.map fun (n, k) => if (k == .free && kn.lookup n == some .cell) then (n, .cell) else (n, k)).lookup y = some (if (k' == .free && kn.lookup y == some .cell) then .cell else k')
  | (n, k') :: r, k, h => by
    rw [List.map_cons]
    dsimp only
    have e : (if (k' == NameKind.free && kn.lookup n == some .cell) = true then (n, NameKind.cell) else (n, k')) = (n, if (k' == NameKind.free && kn.lookup n == some .cell) = true then .cell else k') := by split <;> rfl
    rw [e, List.lookup_cons]
    rw [List.lookup_cons] at h
    by_cases hy : (y == n) = true
    · rw [hy] at h ⊢
      have := eq_of_beq hy
      subst this
      (refine some_el h fun qq => ?_; subst qq; clear h)
      rfl
    · simp only [hy] at h ⊢
      exact knC_look h
theorem comp_env {kn : KN} {env : Env} {scope : Scope} {cl : List (Str × Addr)} {C : Addr} {x : Str} (Eo : EOk env kn) (hok : compOk kn scope x = true) (hcl : ∀ y a, scope.names.lookup y = some .free → env.cells.lookup y = some a → cl.lookup y = some a) :
    EOk (compEnvC scope cl C env) (knC kn scope) := by
  simp only [compOk, Bool.and_eq_true, List.all_eq_true, bne_iff_ne, ne_eq, Bool.or_eq_true, beq_iff_eq] at hok
  refine Classical.byContradiction fun hCC => ?_
  refine ya_7 (hok) fun k1 k2 k3 k4 k5 k6 k7 => ?_
  try clear hok
  refine hCC ?_
  clear hCC
  refine ⟨?_, k1, Eo.glob, Eo.blt, fun y hy => ?_⟩
  · show (relabel scope env).names = _
    unfold relabel knC
    have : ∀ n, env.kindOf n = kn.lookup n := Eo.kindOf
    simp only [this, Eo.kind, beq_self_eq_true, Bool.and_true]
  · obtain ⟨k', q1, q2⟩ := look_knC hy
    have hm := mem_of_look q1
    by_cases hk : (k' == NameKind.free && kn.lookup y == some .cell) = true
    · obtain ⟨h1, h2⟩ := Bool.and_eq_true_iff.mp hk
      have := eq_of_beq h1; subst this
      obtain ⟨a, ha⟩ := Option.isSome_iff_exists.mp (Eo.cells y (eq_of_beq h2))
      show (cl.lookup y).isSome = true
      rw [hcl y a q1 ha]; rfl
    · rw [if_neg hk] at q2
      subst q2
      exact absurd rfl (k3 _ hm)
theorem comp_ec {kn : KN} {env : Env} {scope : Scope} {cl : List (Str × Addr)} {C : Addr} {x : Str} {tbl : List (Option Str)} {σ : List LV} {t : T} {v : Value} {m : Str → Option Value} (Eo : EOk env kn) (hok : compOk kn scope x = true)
    (hcl : ∀ y a, scope.names.lookup y = some .free → env.cells.lookup y = some a → cl.lookup y = some a) (ec : EC c V F env tbl σ) (hC : V C = some (.ns C m)) (hm : m x = some v) (hv : Is c V t v) :
    EC c V F (compEnvC scope cl C env) (tblC tbl scope x) (σ ++ [.frz t]) := by
  have Eo' := comp_env (C := C) Eo hok hcl
  simp only [compOk, Bool.and_eq_true, List.all_eq_true, bne_iff_ne, ne_eq, Bool.or_eq_true, beq_iff_eq] at hok
  refine Classical.byContradiction fun hCC => ?_
  refine ya_7 (hok) fun k1 k2 k3 k4 k5 k6 k7 => ?_
  try clear hok
  refine hCC ?_
  clear hCC
  refine ⟨by simp [tblC, ec.len], fun i y lv h1 h2 h3 => ?_⟩
  unfold tblC at h1
  by_cases hi : i < tbl.length
  · rw [List.getElem?_append_left (by simpa using hi), List.getElem?_map] at h1
    rw [List.getElem?_append_left (by rw [ec.len]; exact hi)] at h2
    cases ht : tbl[i]? with
    | none => rw [ht] at h1; exact none_el h1
    | some o =>
      rw [ht] at h1
      cases o with
      | none => cases h1
      | some z =>
        simp only [Option.map_some, Option.some.injEq] at h1
        by_cases hz : (scope.names.lookup z == some .free) = true
        · rw [if_pos hz] at h1
          obtain rfl := Option.some.inj h1
          have hz' := eq_of_beq hz
          refine xa_1_2 (ec.at_ i z lv ht h2 h3) fun w q1 q2 => ?_
          refine ⟨w, .inr ⟨?_, ?_⟩, q2⟩
          · rw [Eo'.kindOf]
            have := knC_look (kn := kn) hz'
            have hc : kn.lookup z = some .cell := by
              rcases k5 _ (mem_of_look hz') with h' | h'
              · exact absurd rfl h'
              · exact h'
            rw [hc] at this
            exact this
          · rcases q1 with ⟨a, _⟩ | ⟨_, a, b, d⟩
            · rw [Eo.kindOf] at a
              rcases k5 _ (mem_of_look hz') with h' | h'
              · exact absurd rfl h'
              · rw [h'] at a; cases a
            · exact ⟨a, hcl z a hz' b, d⟩
        · rw [if_neg hz] at h1; exact none_el h1
  · rw [List.getElem?_append_right (by rw [List.length_map]; omega), List.length_map] at h1
    rw [List.getElem?_append_right (by rw [ec.len]; omega), ec.len] at h2
    have hi0 : i - tbl.length = 0 := by
      cases hh : i - tbl.length with
      | zero => rfl
      | succ j => rw [hh] at h1; exact none_el h1
    rw [hi0] at h1 h2
    simp only [List.getElem?_cons_zero, Option.some.injEq] at h1 h2
    subst h1 h2
    refine ⟨v, .inl ⟨?_, C, m, hC, hm⟩, hv⟩
    rw [Eo'.kindOf]
    have := knC_look (kn := kn) k2
    exact this
end
end Mine
end
section
open PySem PySem.W PySem.Calls PyProof.Rows PySem.Spec PySem.SeqAt
set_option genInjectivity false
set_option tactic.hygienic false
namespace Mine
section
variable {c : Cfg} {A : Around} {V V' : View} {F : Addr} {n : Nat} {G : Str → Option Value} {ct : Addr → List T → Option T}
noncomputable def ConL (c : Cfg) (n : Nat) (f : Value) (args : List T) (rs : List T) : Prop :=
  ∀ A V vs, AOk n A → IsL c V args vs → GivesL c A V (call f vs) rs
noncomputable def freshFns : List Addr := [684]
structure Hyp (c : Cfg) (A : Around) (n : Nat) (G : Str → Option Value) (ct : Addr → List T → Option T) : Prop where
  a : AOk n A
  g : Gl c G
  t : TOk c n ct
  v : VecOk c
  ini : IniOk c
  fl : ∀ f args l, freshFns.contains f = true → ct f args = some (.list l) → ConL c n (.ref f) args l
noncomputable def Val (c : Cfg) (A : Around) (r : Bool) (V : View) (env : Env) (x : Expr) (t : T) : Prop :=
  GivesR c A V (eval x env) (fun V' v => OkR c r V' t v) ∧ ∀ b, t = .bool b → GivesR c A V (isTrue x env (eval x env)) fun _ b' => b' = b
theorem val_of {r : Bool} {env : Env} {x : Expr} {t : T} (h : Gives c A V (eval x env) t) (he : isTrue x env (eval x env) = (do let v ← eval x env; standAt x.pos; holding [v] (truthy v))) : Val c A r V env x t :=
  ⟨h.weak fun V' v _ hv => hv.ok, fun b hb => isTrue_of (hb ▸ h) he⟩
theorem gives2 {env : Env} {x y : Expr} {t u r : T} {k : Value → Value → Sem Value} (hx : GivesR c A V (eval x env) fun V' v => IsR c V' t v) (hy : ∀ V', VLe V V' → GivesR c A V' (eval y env) fun V' v => IsR c V' u v)
    (hk : ∀ V' v w, VLe V V' → IsR c V' t v → IsR c V' u w → Gives c A V' (k v w) r) {s : Shared} {E Q : Value → Shared → Prop} (hV : Vw c V s.heap) (hQ : ∀ v V' h' tk, VLe V V' → Vw c V' h' → Is c V' r v → Q v { s with heap := h', toks := tk }) :
    wpAny c.M A (eval x env) (fun a s₁ => wpAny c.M A (eval y env) (fun b s₂ => wpAny c.M A (k a b) Q E s₂) E s₁) E s :=
  hx s E _ hV fun v V1 h1 tk1 l1 hV1 r1 => hy V1 l1 _ E _ hV1 fun w V2 h2 tk2 l2 hV2 r2 => hk V2 v w (l1.trans l2) (r1.mono l2) r2 _ E Q hV2 fun z V3 h3 tk3 l3 hV3 r3 => hQ z V3 h3 tk3 ((l1.trans l2).trans l3) hV3 r3
theorem Val.r {r : Bool} {env : Env} {x : Expr} {t : T} (h : Val c A r V env x t) : GivesR c A V (eval x env) fun V' v => IsR c V' t v := h.1.weak fun _ _ _ q => q.1
theorem Val.f {env : Env} {x : Expr} {t : T} (h : Val c A false V env x t) : Gives c A V (eval x env) t := h.1.weak fun _ _ _ q => q.is
theorem list_fresh {env : Env} {p : Pos} {vs : List Expr} {ts : List T} {tbl : List (Option Str)} {σ : List LV} (h : ∀ V, EC c V F env tbl σ → GivesR c A V (spliced (backTo p (starEach vs env))) fun V' us => OkRL c false V' ts us) (hlen : ts.length ≤ lim) (ec : EC c V F env tbl σ) :
    GivesL c A V (eval (.List vs p) env) ts := fun s E Q hV hQ => wpAny_List (h V ec s E _ hV fun us V1 hp1 tk1 l1 hV1 r1 => by
  have r1 := r1.2 rfl
  have hn := hV1.on.fresh (Nat.le_refl _)
  refine ⟨by rw [r1.length]; exact Nat.le_trans hlen lim_line, hQ _ us 0 V1 _ tk1 l1 (hV1.mono fun b o e => Heap.get?_push_of_some _ e) hn (Heap.get?_push_size _ rfl) r1⟩)
theorem notStar {v : Expr} (h : isStar v = false) (a : Expr) (p : Pos) : v ≠ .Starred a p := by
  rintro rfl; cases h
theorem star_cons {v : Expr} {vs : List Expr} {env : Env} (h : ∀ a p, v ≠ .Starred a p) : starEach (v :: vs) env = (false, eval v env) :: starEach vs env := by
  cases v <;> first | rfl | exact absurd rfl (h _ _)
theorem star_all {env : Env} {p : Pos} : ∀ {l : List Expr}, (∀ a ∈ l, ∀ e p, a ≠ .Starred e p) → (backTo p (starEach l env)).all (fun x => !x.1) = true
  | [], _ => rfl
  | a :: l, h => by
    rw [star_cons (h a (.head _))]
    show (true && (backTo p (starEach l env)).all (fun x => !x.1)) = true
    rw [star_all fun a ha => h a (.tail _ ha)]; rfl
theorem call_name {nm : Str} {q p : Pos} {as : List Expr} {env : Env} {f : Value} {R : View → List Value → Prop} {R' : View → Value → Prop} (hf : GivesR c A V (eval (.Name nm q) env) fun _ w => w = f)
    (hne : as.isEmpty = false) (hst : ∀ a ∈ as, ∀ e p, a ≠ .Starred e p) (hk : ∀ h V, Vw c V h → ∃ k, (k = Keeper.frame ∨ k = Keeper.machine ∨ k = Keeper.boundFrame) ∧ Looks c.M h (keeperOf f) k)
    (ha : ∀ V', VLe V V' → GivesR c A V' (spliced (backTo p (starEach as env))) R) (hc : ∀ V' vs, VLe V V' → R V' vs → GivesR c A V' (call f vs) R') :
    GivesR c A V (eval (.Call (.Name nm q) as [] p) env) R' := by
  intro s E Q hV hQ
  show wpAny c.M A (do callWith p (← eval (.Name nm q) env) [] (backTo p (starEach as env)) (backToKw p (keywordEach [] env))) Q E s
  refine wpAny_bind (hf s E _ hV fun w V1 h1 tk1 l1 hV1 r1 => ?_)
  subst r1
  exact callWith_gives (first := []) hne hst (fun h hV => hk h V1 hV) (ha V1 l1) (fun V2 vs l2 r2 => hc V2 vs (l1.trans l2) r2) _ E Q hV1 fun v V2 h2 tk2 l2 hV2 r2 => hQ v V2 h2 tk2 (l1.trans l2) hV2 r2
theorem meth_recv {m : MI} {o r : T} {ts : List T} {vo : Value} {s : Shared} (e : tmeth m o ts = some r) (ho : IsR c V o vo) (H : On V s.heap) :
    s.TypeIs vo m.ty ∧ ∀ a, vo = .ref a → ∃ ob, s.heap.get? a = some ob ∧ ob.dict = none := by
  cases m with
  | join =>
    refine tS_el e fun x ex _ => ?_
    subst ex
    obtain ⟨t, rfl⟩ := ho.is (by intro _ h; cases h)
    exact ⟨typeIs_str _ _ _, fun a h => by cases h⟩
  | count =>
    refine tL_el e fun x ex _ => ?_
    refine Classical.byContradiction fun hCC => ?_
    subst ex
    refine xa_3_3 (ho.lst) fun a us k rq0 hg hi => ?_
    subst rq0
    refine hCC ?_
    clear hCC
    exact ⟨⟨_, hg _ H, rfl⟩, fun b h => by cases h; exact ⟨_, hg _ H, rfl⟩⟩
  | lindex =>
    refine tL_el e fun x ex _ => ?_
    refine Classical.byContradiction fun hCC => ?_
    subst ex
    refine xa_3_3 (ho.lst) fun a us k rq0 hg hi => ?_
    subst rq0
    refine hCC ?_
    clear hCC
    exact ⟨⟨_, hg _ H, rfl⟩, fun b h => by cases h; exact ⟨_, hg _ H, rfl⟩⟩
  | tindex =>
    cases o with
    | tup l =>
      obtain ⟨a, us, k, rfl, hg, hi⟩ := ho.is (by intro _ h; cases h)
      exact ⟨⟨_, H.frz hg, rfl⟩, fun b h => by cases h; exact ⟨_, H.frz hg, rfl⟩⟩
    | _ => exact none_el e
  | get =>
    cases o with
    | dict ks tt =>
      obtain ⟨a, us, k, rfl, hg, _⟩ := ho.is (by intro _ h; cases h)
      exact ⟨⟨_, H.frz hg, rfl⟩, fun b h => by cases h; exact ⟨_, H.frz hg, rfl⟩⟩
    | _ => exact none_el e
theorem meth_facts (m : MI) : PlainAttrs m.ty ∧ Slot m.ty m.nm m.id ∧ typeOf (.builtin m.id) = pure (.type "method_descriptor") := by
  cases m
  · exact ⟨PySem.F.plainAttrs_str, PySem.F.slot_str_join, PySem.F.type_str_join⟩
  · exact ⟨PySem.F.plainAttrs_list, PySem.F.slot_list_count, PySem.F.type_list_count⟩
  · exact ⟨PySem.F.plainAttrs_list, PySem.F.slot_list_index, PySem.F.type_list_index⟩
  · exact ⟨PySem.F.plainAttrs_tuple, PySem.F.slot_tuple_index, PySem.F.type_tuple_index⟩
  · exact ⟨PySem.F.plainAttrs_dict, PySem.F.slot_dict_get, PySem.F.type_dict_get⟩
theorem isi_vec {k i a : T} {v : Value} (h : Is c V (.vec k i a) v) : Gives c A V (call (.builtin "isinstance") [v, .ref c.VC]) (.bool true) := by
  refine Classical.byContradiction fun hCC => ?_
  refine xa_5_4 (h) fun x dx kv iv av rq0 h1 h2 _ => ?_
  try clear h
  subst rq0
  refine hCC ?_
  clear hCC
  intro s E Q hV hQ
  refine Classical.byContradiction fun hCC => ?_
  refine xa_2_2 (instAt_of hV.on h1 h2) fun es k I _ => ?_
  refine hCC ?_
  clear hCC
  exact isi_call hV.K (fun M => I.type) (by simp [isIn]) (by intro h; cases h) (tok_mono hV hQ rfl)
theorem isi_lst {b : Bool} {v : Value} (h : Is c V (.bool b) v) : Gives c A V (call (.builtin "isinstance") [v, .type "list"]) (.bool false) := by
  obtain rfl : v = .bool b := h
  exact fun s E Q hV hQ => PySem.IsiPair.bool_list (hQ _ V s.heap _ (VLe.refl V) hV rfl)
theorem fld_gives {t : T} {x : Str} {v : Value} (e : fld t = some x) (h : Is c V t v) (hl : x.length ≤ lim) : Gives c A V (formatField v Str.empty) (.str x) := by
  unfold fld at e
  split at e
  · (refine some_el e fun qq => ?_; subst qq; clear e)
    obtain ⟨u, rfl⟩ := h
    exact fun s E Q hV hQ => wpAny_formatField_str (tok_mono hV hQ ⟨_, rfl⟩) (hQ _ V _ _ (VLe.refl V) hV ⟨_, rfl⟩) (Nat.le_trans hl lim_line)
  · split at e
    · rename_i hs; (refine some_el e fun qq => ?_; subst qq; clear e)
      obtain ⟨u, rfl⟩ := h
      exact fun s E Q hV hQ => wpAny_formatField_int (log_small (smallI_lt hs)) (hQ _ V _ _ (VLe.refl V) hV ⟨_, rfl⟩)
    · exact none_el e
  · exact none_el e
theorem keysAre_of {w : World} {prog : Program} : ∀ {es : List DictEntry} {ks : List Str} {ws : List Value}, ks.length = ws.length → (∀ e ∈ es, ∃ k, (PySem.strKind prog w).is k e.key = true ∧ e.hash = (PySem.strKind prog w).hash k) →
    Pairs (PySem.strKind prog w) es (ks.zip ws) → KeysAre w es ks ∧ es.map (·.val) = ws
  | [], ks, ws, hl, hk, hp => by
    have := hp.length
    rw [List.length_zip, ← hl, Nat.min_self] at this
    have h0 : ks = [] := List.length_eq_zero_iff.mp this.symm
    subst h0
    exact ⟨rfl, (List.length_eq_zero_iff.mp hl.symm).symm⟩
  | e :: es, [], _, hl, hk, hp => by cases hp
  | e :: es, k :: ks, [], hl, hk, hp => by cases hl
  | e :: es, k :: ks, u :: ws, hl, hk, hp => by
    rw [List.zip_cons_cons] at hp
    cases hp with
    | cons h1 h2 h3 =>
      refine Classical.byContradiction fun hCC => ?_
      refine xa_1_2 (hk e (.head _)) fun k' q1 q2 => ?_
      have : k' = k := (PySem.strKind prog w).inj _ _ _ q1 h1
      subst this
      obtain ⟨a1, a2⟩ := keysAre_of (by simpa using hl) (fun e he => hk e (.tail _ he)) h3
      obtain ⟨t, ht⟩ := Value.isStrOf_shape h1
      refine hCC ?_
      clear hCC
      exact ⟨⟨k', ks, rfl, ⟨t, ht⟩, q2, a1⟩, by rw [List.map_cons, a2, h2]⟩
theorem dictOf_shape {h : Heap} {a : Addr} {ks : List Str} {ws : List Value} (hl : ks.length = ws.length) (hd : h.DictOf (PySem.strKind c.prog c.w) a (ks.zip ws)) : ∃ es n, h.get? a = some (dictOf es n) ∧ KeysAre c.w es ks ∧ es.map (·.val) = ws := by
  refine Classical.byContradiction fun hCC => ?_
  obtain ⟨o, es, ep, h1, ⟨e1, e2, e3⟩, h3, h4, h5, h6⟩ := hd
  obtain ⟨a1, a2⟩ := keysAre_of hl (fun e he => h4 e (by simpa using he)) h5
  refine hCC ?_
  clear hCC
  refine ⟨es.toList, ep, ?_, a1, a2⟩
  rw [h1]
  refine Classical.byContradiction fun hCC => ?_
  obtain ⟨c', d', dt, sl⟩ := o
  try clear o
  refine hCC ?_
  clear hCC
  dsimp only at e1 e2 e3 h3
  subst e1 e2 e3 h3
  rfl
theorem key_shape {k : Option Expr} {s : Str} (h : keyOf k = some s) : ∃ j p, k = some (.Constant (.str s) j p) := by
  cases k with
  | none => exact none_el h
  | some x =>
    change (if h : x.ctorIdx = 19 then _ else none) = some s at h
    split at h
    · rename_i e
      revert h
      refine Expr.Constant.elim (motive_1 := fun x => ∀ (e : x.ctorIdx = 19), Expr.Constant.elim (motive_1 := fun _ => Option Str) x e _ = some s → ∃ j p, some x = some (Expr.Constant (.str s) j p)) x e (fun c j p e h => ?_) e
      cases c with
      | str s' => exact some_el h fun q => ⟨j, p, by rw [q]⟩
      | _ => exact none_el h
    · exact none_el h
theorem dict_fresh {kvs : List (Option Expr)} {vs : List Expr} {p : Pos} {env : Env} {ks : List Str} {ts : List T} (hk : kvs.map keyOf = ks.map some) (hd : ks.Nodup ∧ 0 < ks.length ∧ ks.length ≤ 15 ∧ kvs.length = vs.length)
    (hp : ∀ V1, VLe V V1 → GivesR c A V1 (evalPairs (pairTrees kvs vs env p)) fun V' us => ∃ ws, Carries (PySem.strKind c.prog c.w) us (ks.zip ws) ∧ ks.length = ws.length ∧ IsL c V' ts ws) {s : Shared} {E Q : Value → Shared → Prop} (hV : Vw c V s.heap)
    (hQ : ∀ a es n V' h' tk, VLe V V' → Vw c V' h' → V' a = none → h'.get? a = some (dictOf es n) → (a == sysModules) = false → KeysAre c.w es ks → IsL c V' ts (es.map (·.val)) → Q (.ref a) { s with heap := h', toks := tk }) : wpAny c.M A (eval (.Dict kvs vs p) env) Q E s := by
  refine Classical.byContradiction fun hCC => ?_
  refine xa_0_4 (hd) fun d1 d2 d3 d4 => ?_
  try clear hd
  refine hCC ?_
  clear hCC
  have hlen : kvs.length = ks.length := by rw [← List.length_map (as := kvs) (f := keyOf), hk, List.length_map]
  have hDs : (s.heap.objs.size == sysModules) = false := by
    exact beq_eq_false_iff_ne.mpr (Nat.ne_of_gt (modules_low hV.lim))
  have vD : V s.heap.objs.size = none := hV.on.fresh (Nat.le_refl _)
  have hV1 := hV.push (cl := .own 0 0 (dictOf [] 0)) (o := { cls := .type "dict", data := .dict #[] }) rfl rfl
  refine wpAny_Dict_walk (knd := PySem.strKind c.prog c.w) ?_ d4 (by rintro rfl; rw [List.length_nil] at hlen; omega) (by omega)
    (hp _ (VLe.set vD) _ E _ hV1 fun us V2 h2 tk2 l2 hV2 r2 => ?_)
  · rw [List.all_eq_true]
    intro o ho
    have : keyOf o ∈ ks.map some := by rw [← hk]; exact List.mem_map_of_mem ho
    refine Classical.byContradiction fun hCC => ?_
    refine xa_1_2 (List.mem_map.mp this) fun s' _ e => ?_
    refine xa_2_1 (key_shape e.symm) fun j q rq0 => ?_
    subst rq0
    refine hCC ?_
    clear hCC
    rfl
  · obtain ⟨ws, r1, r2, r3⟩ := r2
    have v2D : V2 s.heap.objs.size = some (.own 0 0 (dictOf [] 0)) := l2 _ _ (View.set_self ..)
    refine ⟨ks.zip ws, r1, ⟨_, #[], 0, hV2.on.own v2D, ⟨rfl, rfl, rfl⟩, rfl, fun e he => by simp at he, .nil, List.nodup_nil⟩, fun h' hd hs => ?_⟩
    rw [merged_nil_of_nodup _ (by rw [List.map_fst_zip (by omega)]; exact d1)] at hd
    refine Classical.byContradiction fun hCC => ?_
    refine xa_2_3 (dictOf_shape r2 hd) fun es n g1 g2 g3 => ?_
    refine hCC ?_
    clear hCC
    have hVf : On (fun b => if b = s.heap.objs.size then none else V2 b) h' := fun a cl' q => by
      replace q : (if a = s.heap.objs.size then none else V2 a) = some cl' := q
      by_cases ha : a = s.heap.objs.size
      · rw [if_pos ha] at q; exact none_el q
      · rw [if_neg ha] at q
        refine xa_1_2 (hV2.on a cl' q) fun o ho hok => ?_
        exact ⟨o, hs.extBut a o ha ho, hok⟩
    have lf : VLe V (fun b => if b = s.heap.objs.size then none else V2 b) := fun a cl' q => by
      have ha : a ≠ s.heap.objs.size := by rintro rfl; rw [vD] at q; exact none_el q
      show (if a = s.heap.objs.size then none else V2 a) = _
      rw [if_neg ha]; exact l2 _ _ (VLe.set vD _ _ q)
    refine hQ _ es n (fun b => if b = s.heap.objs.size then none else V2 b) h' _ lf ⟨hVf, fun a o q => lf a _ (hV.st a o q), by obtain ⟨L, G, m', q⟩ := hV.nsx; exact ⟨L, G, m', lf _ _ q⟩⟩ (by simp) g1 hDs g2 (by
      rw [g3]
      exact r3.mono fun a cl' q t => by
        have ha : a ≠ s.heap.objs.size := by rintro rfl; rw [v2D] at q; (refine some_el q fun qq => ?_; subst qq; clear q); cases t
        show (if a = s.heap.objs.size then none else V2 a) = _
        rw [if_neg ha]; exact q)
set_option tactic.hygienic true
mutual
theorem ev_ok (H : Hyp c A n G ct) : ∀ (e : ME) (r : Bool) (σ : List LV) (kn : KN) (tbl : List (Option Str)) (x : Expr) (t : T) (env : Env) (V : View),
    mE G e kn tbl x = true → ev ct r σ e = some t → EOk env kn → EC c V F env tbl σ → Val c A r V env x t
  | .none, r, σ, kn, tbl, x, t, env, V, hm, he, Eo, ec => by
    refine mE_none_el hm fun k p ex  => ?_
    clear hm; subst ex
    (refine some_el he fun qq => ?_; subst qq; clear he)
    exact val_of (fun s E Q hV hQ => wpAny_Constant_none (tok_mono hV hQ rfl)) rfl
  | .bool b, r, σ, kn, tbl, x, t, env, V, hm, he, Eo, ec => by
    refine mE_bool_el hm fun k p ex  => ?_
    clear hm; subst ex
    (refine some_el he fun qq => ?_; subst qq; clear he)
    exact val_of (fun s E Q hV hQ => wpAny_Constant_bool (tok_mono hV hQ rfl)) rfl
  | .int b, r, σ, kn, tbl, x, t, env, V, hm, he, Eo, ec => by
    refine mE_int_el hm fun k p ex  => ?_
    clear hm; subst ex
    (refine some_el he fun qq => ?_; subst qq; clear he)
    exact val_of (fun s E Q hV hQ => wpAny_Constant_int (hQ _ V _ _ (VLe.refl V) hV ⟨_, rfl⟩)) rfl
  | .str b, r, σ, kn, tbl, x, t, env, V, hm, he, Eo, ec => by
    refine mE_str_el hm fun k p ex  => ?_
    clear hm; subst ex
    (refine some_el he fun qq => ?_; subst qq; clear he)
    exact val_of (fun s E Q hV hQ => wpAny_Constant_str (hQ _ V _ _ (VLe.refl V) hV ⟨_, rfl⟩)) rfl
  | .var i, r, σ, kn, tbl, x, t, env, V, hm, he, Eo, ec => by
    refine mE_var_el hm fun y p ex hv => ?_
    clear hm; subst ex
    simp only [vOk, Bool.and_eq_true] at hv
    refine ya_3 (hv) fun h1 h2 h3 => ?_
    try clear hv
    have h1 : tbl[i]? = some (some y) := eq_of_beq h1
    have hd := ne_of_bne h3
    replace he : (match σ[i]? with
      | some (.frz t) => some t
      | some (.own l) => if r then some (.list l) else none
      | some (.lock l) => if r then some (.list l) else none
      | _ => none) = some t := he
    split at he
    · rename_i t' q; (refine some_el he fun qq => ?_; subst qq; clear he)
      obtain ⟨v, q1, q2⟩ := ec.at_ i y _ h1 q (by intro h; cases h)
      exact val_of (name_gives Eo q1 hd p q2) rfl
    · rename_i l q
      split at he
      · rename_i hr; (refine some_el he fun qq => ?_; subst qq; clear he)
        obtain ⟨v, q1, a, vs, k, q2, q3, q4⟩ := ec.at_ i y _ h1 q (by intro h; cases h)
        exact ⟨name_gives Eo q1 hd p ⟨.inr ⟨l, a, _, _, vs, k, rfl, q2, q3, q4⟩, fun h => by rw [hr] at h; cases h⟩, fun b hb => by cases hb⟩
      · exact none_el he
    · rename_i l q
      split at he
      · rename_i hr; (refine some_el he fun qq => ?_; subst qq; clear he)
        obtain ⟨v, q1, a, G', j, vs, k, q2, _, q3, q4⟩ := ec.at_ i y _ h1 q (by intro h; cases h)
        exact ⟨name_gives Eo q1 hd p ⟨.inr ⟨l, a, _, _, vs, k, rfl, q2, q3, q4⟩, fun h => by rw [hr] at h; cases h⟩, fun b hb => by cases hb⟩
      · exact none_el he
    · exact none_el he
  | .gint nm i, r, σ, kn, tbl, x, t, env, V, hm, he, Eo, ec => by
    refine mE_gint_el hm fun p tk ex h1 h2 => ?_
    clear hm; subst ex
    (refine some_el he fun qq => ?_; subst qq; clear he)
    exact val_of ((global_gives Eo h1 (H.g.gl _ _ h2) p).weak fun V' w _ hw => ⟨tk, hw⟩) rfl
  | .attr e nm, r, σ, kn, tbl, x, t, env, V, hm, he, Eo, ec => by
    refine mE_attr_el hm fun v p ex hc h1 => ?_
    clear hm; subst ex
    refine xa_1_2 (Option.bind_eq_some_iff.mp he) fun o ho ht => ?_
    have ih := ev_ok H e false σ kn tbl v o env V h1 ho Eo ec
    refine val_of (fun s E Q hV hQ => ?_) rfl
    refine Attribute_any_ (ih.f s E _ hV fun w V1 hp1 tk1 l1 hV1 r1 => attr_gives H.v o t nm w true ht r1 _ E Q hV1 fun z V2 hp2 tk2 l2 hV2 r2 => hQ z V2 hp2 tk2 (l1.trans l2) hV2 r2) ?_
    rw [arm_eval_Attribute, attrBase hc]
  | .idx e i, r, σ, kn, tbl, x, t, env, V, hm, he, Eo, ec => by
    refine mE_idx_el hm fun v s' p ex hs h1 h2 => ?_
    clear hm; subst ex
    refine Classical.byContradiction fun hCC => ?_
    refine xa_1_2 (Option.bind_eq_some_iff.mp he) fun o ho he => ?_
    refine xa_1_2 (Option.bind_eq_some_iff.mp he) fun u hu ht => ?_
    refine hCC ?_
    clear hCC
    have ih1 := ev_ok H e true σ kn tbl v o env V h1 ho Eo ec
    refine val_of (fun s E Q hV hQ => Subscript_ (gives2 ih1.r (fun V' l => (ev_ok H i false σ kn tbl s' u env V' h2 hu Eo (ec.mono l)).r) (fun V' a b l ha hb => item_gives v s' o u t a b ht ha hb (subscripted_plain hs)) hV hQ)) rfl
  | .slc e lo hi, r, σ, kn, tbl, x, t, env, V, hm, he, Eo, ec => by
    refine mE_slc_el hm fun v l u q p ex hn h1 h2 h3 => ?_
    clear hm; subst ex
    refine Classical.byContradiction fun hCC => ?_
    refine xa_1_2 (Option.bind_eq_some_iff.mp he) fun o ho he => ?_
    refine xa_1_2 (Option.bind_eq_some_iff.mp he) fun lo' hlo he => ?_
    refine xa_1_2 (Option.bind_eq_some_iff.mp he) fun hi' hhi ht => ?_
    refine hCC ?_
    clear hCC
    have ih1 := ev_ok H e true σ kn tbl v o env V h1 ho Eo ec
    unfold tslc at ht
    split at ht
    · rename_i ts
      split at ht
      · rename_i hlen; (refine some_el ht fun qq => ?_; subst qq; clear ht)
        refine val_of (fun s E Q hV hQ => ?_) rfl
        refine wpAny_Subscript_list_slice (ih1.r s E _ hV fun a V1 hp1 tk1 l1 hV1 r1 => evO_ok H lo σ kn tbl l lo' env V1 h2 hlo Eo (ec.mono l1) _ E _ hV1 fun vl V2 hp2 tk2 l2 hV2 r2 =>
          evO_ok H hi σ kn tbl u hi' env V2 h3 hhi Eo (ec.mono (l1.trans l2)) _ E _ hV2 fun vu V3 hp3 tk3 l3 hV3 r3 => ?_) (by
            intro a b
            cases v <;> first | rfl | exact ff_el hn)
        refine Classical.byContradiction fun hCC => ?_
        refine xa_3_3 ((r1.mono (l2.trans l3)).lst) fun ad vs k rq0 hg hi => ?_
        subst rq0
        refine hCC ?_
        clear hCC
        refine ⟨ad, vs.toArray, lo', hi', rfl, isList_of (hg _ hV3.on), ?_, r2, r3, ?_⟩
        · rw [List.size_toArray, hi.length]; exact Nat.le_trans hlen lim_line
        · rw [kms_pick_eq]
          have hV4 := hV3.mono (h' := hp3.push { cls := .type "slice", data := .fields #[vl, vu, .none] }) fun b o e => Heap.get?_push_of_some _ e
          have hn4 : V3 (hp3.push { cls := .type "slice", data := .fields #[vl, vu, .none] }).objs.size = none := hV4.on.fresh (Nat.le_refl _)
          have hV5 := hV4.push (cl := .frz (lstO (kms_pick vs lo' hi') 0)) (o := lstO (kms_pick vs lo' hi') 0) rfl rfl
          rw [Heap.size_push] at hn4 hV5
          exact hQ _ _ _ _ (((l1.trans l2).trans l3).trans (VLe.set hn4)) hV5 ⟨_, _, 0, rfl, View.set_self .., (slice_is hi lo' hi').mono (VLe.set hn4).toF⟩
      · exact none_el ht
    · exact none_el ht
  | .bin op a b, r, σ, kn, tbl, x, t, env, V, hm, he, Eo, ec => by
    refine mE_bin_el hm fun l u p ex h1 h2 => ?_
    clear hm; subst ex
    refine Classical.byContradiction fun hCC => ?_
    refine xa_1_2 (Option.bind_eq_some_iff.mp he) fun o ho he => ?_
    refine xa_1_2 (Option.bind_eq_some_iff.mp he) fun w hw ht => ?_
    refine hCC ?_
    clear hCC
    exact val_of (fun s E Q hV hQ => wpAny_BinOp (gives2 (ev_ok H a true σ kn tbl l o env V h1 ho Eo ec).r (fun V' q => (ev_ok H b true σ kn tbl u w env V' h2 hw Eo (ec.mono q)).r) (fun V' v z q hv hz => bin_gives op o w t v z ht hv hz) hV hQ)) rfl
  | .cmp op a b, r, σ, kn, tbl, x, t, env, V, hm, he, Eo, ec => by
    refine mE_cmp_el hm fun l u p ex h1 h2 h3 => ?_
    clear hm; subst ex
    refine Classical.byContradiction fun hCC => ?_
    refine xa_1_2 (Option.bind_eq_some_iff.mp he) fun o ho he => ?_
    refine xa_1_2 (Option.bind_eq_some_iff.mp he) fun w hw he => ?_
    refine xa_1_2 (Option.bind_eq_some_iff.mp he) fun b' hb ht => ?_
    refine hCC ?_
    clear hCC
    (refine some_el ht fun qq => ?_; subst qq; clear ht)
    have g := fun (s : Shared) (E Q : Value → Shared → Prop) (hV : Vw c V s.heap) hQ => gives2 (E := E) (Q := Q) (ev_ok H a true σ kn tbl l o env V h1 ho Eo ec).r (fun V' q => (ev_ok H b true σ kn tbl u w env V' h2 hw Eo (ec.mono q)).r) (fun V' v z q hv hz => cmp_gives op o w v z b' H.a hb hv hz) hV hQ
    refine ⟨fun s E Q hV hQ => wpAny_Compare1 (g s E Q hV fun v V' h' tk l1 hV' r1 => hQ v V' h' tk l1 hV' r1.ok) h3, fun b'' hb'' => ?_⟩
    cases hb''
    intro s E Q hV hQ
    exact wpAny_isTrue_Compare1 (g s E (fun v s' => wpAny c.M A (truthy v) Q E s') hV fun v V' h' tk l1 hV' r1 => truthy_gives r1 _ E Q hV' fun b3 V2 h2 tk2 l2 hV2 r2 => hQ b3 V2 h2 tk2 (l1.trans l2) hV2 r2) h3
  | .bop op l, r, σ, kn, tbl, x, t, env, V, hm, he, Eo, ec => by
    refine mE_bop_el hm fun vs p ex h1 => ?_
    clear hm; subst ex
    refine xa_1_2 (Option.bind_eq_some_iff.mp he) fun b hb ht => ?_
    (refine some_el ht fun qq => ?_; subst qq; clear ht)
    have ih := fun V ec => evB_ok H l σ kn tbl op vs b env V p h1 hb Eo ec
    refine ⟨(ih V ec).1.weak fun _ _ _ q => q.ok, fun b' hb' => ?_⟩
    cases hb'
    exact fun s E Q hV hQ => wpAny_isTrue_BoolOp ((ih V ec).2 s E Q hV hQ)
  | .not e, r, σ, kn, tbl, x, t, env, V, hm, he, Eo, ec => by
    refine mE_not_el hm fun v p ex h1 => ?_
    clear hm; subst ex
    refine Classical.byContradiction fun hCC => ?_
    refine xa_1_2 (Option.bind_eq_some_iff.mp he) fun o ho he => ?_
    refine xa_1_2 (Option.bind_eq_some_iff.mp he) fun b hb ht => ?_
    refine hCC ?_
    clear hCC
    (refine some_el ht fun qq => ?_; subst qq; clear ht)
    have := asB_some hb; subst this
    have ih := ev_ok H e false σ kn tbl v (.bool b) env V h1 ho Eo ec
    refine ⟨fun s E Q hV hQ => wpAny_UnaryOp (ih.f s E _ hV fun w V1 hp1 tk1 l1 hV1 r1 => not_gives r1 _ E Q hV1 fun z V2 hp2 tk2 l2 hV2 r2 => hQ z V2 hp2 tk2 (l1.trans l2) hV2 r2.ok), fun b' hb' => ?_⟩
    cases hb'
    exact fun s E Q hV hQ => wpAny_isTrue_Not (ih.2 b rfl s E _ hV fun b1 V1 hp1 tk1 l1 hV1 r1 => by subst r1; exact hQ _ V1 hp1 tk1 l1 hV1 rfl)
  | .neg e, r, σ, kn, tbl, x, t, env, V, hm, he, Eo, ec => by
    refine mE_neg_el hm fun v p ex h1 => ?_
    clear hm; subst ex
    replace he : (match ev ct false σ e with | some (.int a) => some (T.int (-a)) | _ => none) = some t := he
    split at he
    · rename_i a ho; (refine some_el he fun qq => ?_; subst qq; clear he)
      have ih := ev_ok H e false σ kn tbl v (.int a) env V h1 ho Eo ec
      exact val_of (fun s E Q hV hQ => wpAny_UnaryOp (ih.f s E _ hV fun w V1 hp1 tk1 l1 hV1 r1 => neg_gives r1 _ E Q hV1 fun z V2 hp2 tk2 l2 hV2 r2 => hQ z V2 hp2 tk2 (l1.trans l2) hV2 r2)) rfl
    · exact none_el he
  | .ite e a b, r, σ, kn, tbl, x, t, env, V, hm, he, Eo, ec => by
    refine mE_ite_el hm fun e' a' b' p ex h1 h2 h3 => ?_
    clear hm; subst ex
    refine Classical.byContradiction fun hCC => ?_
    refine xa_1_2 (Option.bind_eq_some_iff.mp he) fun o ho he => ?_
    refine xa_1_2 (Option.bind_eq_some_iff.mp he) fun bb hb ht => ?_
    refine hCC ?_
    clear hCC
    have := asB_some hb; subst this
    have ih := ev_ok H e false σ kn tbl e' (.bool bb) env V h1 ho Eo ec
    cases bb with
    | true =>
      have ht : ev ct false σ a = some t := ht
      have ih2 := fun V ec => ev_ok H a false σ kn tbl a' t env V h2 ht Eo ec
      refine ⟨fun s E Q hV hQ => wpAny_IfExp (ih.2 true rfl s E _ hV fun b1 V1 hp1 tk1 l1 hV1 r1 => by subst r1; exact (ih2 V1 (ec.mono l1)).f _ E Q hV1 fun z V2 hp2 tk2 l2 hV2 r2 => hQ z V2 hp2 tk2 (l1.trans l2) hV2 r2.ok), fun b' hb' => ?_⟩
      exact fun s E Q hV hQ => isTrue_IfExp (ih.2 true rfl s E _ hV fun b1 V1 hp1 tk1 l1 hV1 r1 => by subst r1; exact (ih2 V1 (ec.mono l1)).2 b' hb' _ E Q hV1 fun z V2 hp2 tk2 l2 hV2 r2 => hQ z V2 hp2 tk2 (l1.trans l2) hV2 r2)
    | false =>
      have ht : ev ct false σ b = some t := ht
      have ih2 := fun V ec => ev_ok H b false σ kn tbl b' t env V h3 ht Eo ec
      refine ⟨fun s E Q hV hQ => wpAny_IfExp (ih.2 false rfl s E _ hV fun b1 V1 hp1 tk1 l1 hV1 r1 => by subst r1; exact (ih2 V1 (ec.mono l1)).f _ E Q hV1 fun z V2 hp2 tk2 l2 hV2 r2 => hQ z V2 hp2 tk2 (l1.trans l2) hV2 r2.ok), fun b' hb' => ?_⟩
      exact fun s E Q hV hQ => isTrue_IfExp (ih.2 false rfl s E _ hV fun b1 V1 hp1 tk1 l1 hV1 r1 => by subst r1; exact (ih2 V1 (ec.mono l1)).2 b' hb' _ E Q hV1 fun z V2 hp2 tk2 l2 hV2 r2 => hQ z V2 hp2 tk2 (l1.trans l2) hV2 r2)
  | .list l, r, σ, kn, tbl, x, t, env, V, hm, he, Eo, ec => by
    refine mE_list_el hm fun vs p ex h1 => ?_
    clear hm; subst ex
    refine xa_1_2 (Option.bind_eq_some_iff.mp he) fun ts hts he => ?_
    replace he : (if ts.length ≤ lim then some (T.list ts) else none) = some t := he
    split at he
    · rename_i hlen; (refine some_el he fun qq => ?_; subst qq; clear he)
      exact val_of (list_fresh (fun V ec => evL_ok H l false σ kn tbl vs ts env V p h1 hts Eo ec) hlen ec).frz rfl
    · exact none_el he
  | .tup l, r, σ, kn, tbl, x, t, env, V, hm, he, Eo, ec => by
    refine mE_tup_el hm fun vs k p ex h1 => ?_
    clear hm; subst ex
    refine xa_1_2 (Option.bind_eq_some_iff.mp he) fun ts hts he => ?_
    replace he : (if ts.length ≤ lim then some (T.tup ts) else none) = some t := he
    split at he
    · rename_i hlen; (refine some_el he fun qq => ?_; subst qq; clear he)
      refine val_of (fun s E Q hV hQ => wpAny_Tuple (evL_ok H l false σ kn tbl vs ts env V p h1 hts Eo ec s E _ hV fun us V1 hp1 tk1 l1 hV1 r1 => ?_)) rfl
      have r1 := r1.2 rfl
      have hn := hV1.on.fresh (Nat.le_refl _)
      exact ⟨by rw [r1.length]; exact Nat.le_trans hlen lim_line, hQ _ _ _ tk1 (l1.trans (VLe.set hn)) (hV1.push (cl := .frz (tupO us 0)) (o := tupO us 0) rfl rfl) ⟨_, us, 0, rfl, View.set_self .., r1.mono (VLe.set hn).toF⟩⟩
    · exact none_el he
  | .dict ks l, r, σ, kn, tbl, x, t, env, V, hm, he, Eo, ec => by
    refine mE_dict_el hm fun kvs vs p ex h1 h2 h3 => ?_
    clear hm; subst ex
    refine xa_1_2 (Option.bind_eq_some_iff.mp he) fun ts hts he => ?_
    (refine some_el he fun qq => ?_; subst qq; clear he)
    refine val_of (fun s E Q hV hQ => dict_fresh h1 h2 (fun V1 l1 => evP_ok H l ks σ kn tbl kvs vs ts env V1 p h3 hts h1 h2.2.2.2 Eo (ec.mono l1)) hV fun a es n V' h' tk lV hV' hn hg hs hk hi => ?_) rfl
    exact hQ _ (V'.set a (.frz (dictOf es n))) h' tk (lV.trans (VLe.set hn)) (hV'.add (cl := .frz (dictOf es n)) hn hg rfl) ⟨a, es, n, rfl, View.set_self .., hs, hk, hi.mono (VLe.set hn).toF⟩
  | .comp elt it cond, r, σ, kn, tbl, x, t, env, V, hm, he, Eo, ec => by
    refine mE_comp_el hm fun e y py i ifs sc p ex h1 h2 h3 h4 h5 => ?_
    clear hm; subst ex
    refine Classical.byContradiction fun hCC => ?_
    refine xa_1_2 (Option.bind_eq_some_iff.mp he) fun src hsrc he => ?_
    refine xa_1_2 (Option.bind_eq_some_iff.mp he) fun items hit he => ?_
    refine xa_1_2 (Option.bind_eq_some_iff.mp he) fun rs hrs ht => ?_
    refine hCC ?_
    clear hCC
    (refine some_el ht fun qq => ?_; subst qq; clear ht)
    exact val_of (comp_fresh H.a Eo h1 h4 (ev_ok H it true σ kn tbl i src env V h2 hsrc Eo ec).r hit hrs
      (fun C cl V1 t v b m q1 q2 q3 q4 q5 q6 => evC_ok H cond (σ ++ [.frz t]) _ _ ifs b _ V1 h5 q1 (comp_env Eo h1 q6) (comp_ec Eo h1 q6 (ec.mono q2) q3 q4 q5))
      (fun C cl V1 t v r m q1 q2 q3 q4 q5 q6 => (ev_ok H elt false (σ ++ [.frz t]) _ _ e r _ V1 h3 q1 (comp_env Eo h1 q6) (comp_ec Eo h1 q6 (ec.mono q2) q3 q4 q5)).f)).frz rfl
  | .call nm f l, r, σ, kn, tbl, x, t, env, V, hm, he, Eo, ec => by
    refine mE_call_el hm fun q as p ex h1 h2 h3 h4 => ?_
    clear hm; subst ex
    refine xa_1_2 (Option.bind_eq_some_iff.mp he) fun ts hts ht => ?_
    refine val_of (call_name (R := fun V' vs => IsL c V' ts vs) (global_gives Eo h1 (H.g.gl _ _ h2) q) h4 (mL_star h3) (fun h V hV => keeps_K (H.g.kp _ _ h2) h hV.K)
      (fun V' l1 => (evL_ok H l false σ kn tbl as ts env V' p h3 hts Eo (ec.mono l1)).weak fun _ _ _ q => q.2 rfl) (fun V' vs l1 h => H.t f ts t ht A V' vs H.a h)) rfl
  | .bcall b l, r, σ, kn, tbl, x, t, env, V, hm, he, Eo, ec => by
    refine mE_bcall_el hm fun q as p ex h1 h3 h4 => ?_
    clear hm; subst ex
    refine Classical.byContradiction fun hCC => ?_
    refine xa_1_2 (Option.bind_eq_some_iff.mp he) fun ts hts ht => ?_
    refine xa_0_3 (H.g.bl b) fun b1 b2 b3 => ?_
    refine hCC ?_
    clear hCC
    refine val_of (call_name (R := fun V' vs => IsRL c V' ts vs) (builtin_gives Eo h1 b1 b2 b3 q) h4 (mL_star h3) (fun h V hV => ⟨_, .inr (.inl rfl), keeper_builtin (by cases b <;> (intro a h; cases h))⟩)
      (fun V' l1 => (evL_ok H l true σ kn tbl as ts env V' p h3 hts Eo (ec.mono l1)).weak fun _ _ _ q => q.1) (fun V' vs l1 h => call_gives b ts vs t H.a ht h)) rfl
  | .meth m o l, r, σ, kn, tbl, x, t, env, V, hm, he, Eo, ec => by
    refine mE_meth_el hm fun v ap as p ex h1 h2 h3 h4 h5 h6 => ?_
    clear hm; subst ex
    refine Classical.byContradiction fun hCC => ?_
    refine xa_1_2 (Option.bind_eq_some_iff.mp he) fun o' ho he => ?_
    refine xa_1_2 (Option.bind_eq_some_iff.mp he) fun ts hts ht => ?_
    have ih := ev_ok H o true σ kn tbl v o' env V h1 ho Eo ec
    refine xa_0_3 (meth_facts m) fun f1 f2 f3 => ?_
    refine hCC ?_
    clear hCC
    refine val_of (fun s E Q hV hQ => wpAny_Call_method_lateS (attrBase h4) ?_ h3 (ih.r s E _ hV fun w V1 hp1 tk1 l1 hV1 r1 => ?_)) rfl
    · rw [star_all (mL_star h2)]
      show (true && true && decide (as.length + 0 + 0 < 30)) = true
      simp; omega
    · obtain ⟨g1, g2⟩ := meth_recv (s := { s with heap := hp1, toks := tk1 }) ht r1 hV1.on
      refine ⟨m.ty, m.id, f1, f2, f3, g1, g2, ?_⟩
      exact callWith_gives (first := [w]) (R := fun V' vs => IsL c V' ts vs) h5 (mL_star h2) (fun h hV => ⟨_, .inr (.inl rfl), keeper_builtin (by intro a h; cases h)⟩)
        ((evL_ok H l false σ kn tbl as ts env V1 p h2 hts Eo (ec.mono l1)).weak fun _ _ _ q => q.2 rfl) (fun V2 vs l2 h => meth_gives m o' t ts w vs H.a ht (r1.mono l2) h) _ E Q hV1 fun z V2 hp2 tk2 l2 hV2 r2 => hQ z V2 hp2 tk2 (l1.trans l2) hV2 r2
  | .isv e, r, σ, kn, tbl, x, t, env, V, hm, he, Eo, ec => by
    refine mE_isv_el hm fun q v q' p ex h1 h2 h3 h4 => ?_
    clear hm; subst ex
    replace he : (match ev ct false σ e with | some (.vec _ _ _) => some (T.bool true) | _ => none) = some t := he
    split at he
    · rename_i k i a ho; (refine some_el he fun qq => ?_; subst qq; clear he)
      have ih := fun V ec => ev_ok H e false σ kn tbl v _ env V h4 ho Eo ec
      refine val_of (call_name (f := .builtin "isinstance") (R := fun V' vs => ∃ w, vs = [w, .ref c.VC] ∧ Is c V' (.vec k i a) w) (builtin_gives Eo h1 H.g.isi.1 H.g.isi.2 (by decide) q) rfl ?_ (fun h V hV => ⟨_, .inr (.inl rfl), keeper_builtin (by intro a h; cases h)⟩) ?_ ?_) rfl
      · intro a ha e' p'
        rcases List.mem_cons.mp ha with rfl | ha
        · exact notStar h3 _ _
        · rcases List.mem_cons.mp ha with rfl | ha
          · intro h; cases h
          · cases ha
      · intro V' l1 s E Q hV hQ
        refine wpAny_items_cons ((ih V' (ec.mono l1)).f s E _ hV fun w V1 hp1 tk1 l1 hV1 r1 => wpAny_items_cons (global_gives Eo h2 H.g.vc q' _ E _ hV1 fun z V2 hp2 tk2 l2 hV2 r2 => ?_) rfl) (star_cons (notStar h3))
        subst r2
        exact wpAny_items_nil (hQ _ V2 hp2 tk2 (l1.trans l2) hV2 ⟨w, rfl, Is.mono l2.toF _ _ r1⟩)
      · rintro V' vs l1 ⟨w, rfl, hw⟩
        exact isi_vec hw
    · exact none_el he
  | .isl e, r, σ, kn, tbl, x, t, env, V, hm, he, Eo, ec => by
    refine mE_isl_el hm fun q v q' p ex h1 h2 h3 h4 => ?_
    clear hm; subst ex
    replace he : (match ev ct false σ e with | some (.bool _) => some (T.bool false) | _ => none) = some t := he
    refine xa_0_3 (H.g.bl .list) fun b1 b2 b3 => ?_
    split at he
    · rename_i b ho; (refine some_el he fun qq => ?_; subst qq; clear he)
      have ih := fun V ec => ev_ok H e false σ kn tbl v _ env V h4 ho Eo ec
      refine val_of (call_name (f := .builtin "isinstance") (R := fun V' vs => ∃ w, vs = [w, .type "list"] ∧ Is c V' (.bool b) w) (builtin_gives Eo h1 H.g.isi.1 H.g.isi.2 (by decide) q) rfl ?_ (fun h V hV => ⟨_, .inr (.inl rfl), keeper_builtin (by intro a h; cases h)⟩) ?_ ?_) rfl
      · intro a ha e' p'
        rcases List.mem_cons.mp ha with rfl | ha
        · exact notStar h3 _ _
        · rcases List.mem_cons.mp ha with rfl | ha
          · intro h; cases h
          · cases ha
      · intro V' l1 s E Q hV hQ
        refine wpAny_items_cons ((ih V' (ec.mono l1)).f s E _ hV fun w V1 hp1 tk1 l1 hV1 r1 => wpAny_items_cons (builtin_gives (x := BI.list.nm) Eo h2 b1 b2 b3 q' _ E _ hV1 fun z V2 hp2 tk2 l2 hV2 r2 => ?_) rfl) (star_cons (notStar h3))
        subst r2
        exact wpAny_items_nil (hQ _ V2 hp2 tk2 (l1.trans l2) hV2 ⟨w, rfl, Is.mono l2.toF _ _ r1⟩)
      · rintro V' vs l1 ⟨w, rfl, hw⟩
        exact isi_lst hw
    · exact none_el he
  | .fstr l, r, σ, kn, tbl, x, t, env, V, hm, he, Eo, ec => by
    refine mE_fstr_el hm fun v₁ v₂ vs p ex h1 => ?_
    clear hm; subst ex
    refine xa_1_2 (Option.bind_eq_some_iff.mp he) fun ts hts ht => ?_
    refine val_of (fun s E Q hV hQ => wpAny_JoinedStr (evF_ok H l σ kn tbl _ ts env V Str.empty t h1 hts ht Eo ec s E _ hV fun out V1 hp1 tk1 l1 hV1 hl ho => ?_)) rfl
    exact ⟨Nat.le_trans hl lim_line, hQ _ V1 hp1 _ l1 hV1 (by subst ho; exact ⟨_, rfl⟩)⟩
  | .opq, r, σ, kn, tbl, x, t, env, V, hm, he, Eo, ec => by exact none_el he
theorem evO_ok (H : Hyp c A n G ct) : ∀ (e : Option ME) (σ : List LV) (kn : KN) (tbl : List (Option Str)) (x : Option Expr) (t : Option Int) (env : Env) (V : View),
    mO G e kn tbl x = true → evO ct σ e = some t → EOk env kn → EC c V F env tbl σ → GivesR c A V (evalPart x env) fun V' v => IsPart v t
  | none, σ, kn, tbl, x, t, env, V, hm, he, Eo, ec => by
    (refine some_el he fun qq => ?_; subst qq; clear he)
    have hx : x = none := by cases x <;> first | rfl | exact absurd hm Bool.false_ne_true
    subst hx
    exact fun s E Q hV hQ => wpAny_evalPart_none (hQ _ V s.heap s.toks (VLe.refl V) hV .none)
  | some e, σ, kn, tbl, x, t, env, V, hm, he, Eo, ec => by
    cases x with
    | none => exact absurd hm Bool.false_ne_true
    | some v =>
      replace hm : mE G e kn tbl v = true := hm
      replace he : (match ev ct false σ e with | some (.int i) => some (some i) | _ => none) = some t := he
      split at he
      · rename_i i ho; (refine some_el he fun qq => ?_; subst qq; clear he)
        have ih := ev_ok H e false σ kn tbl v _ env V hm ho Eo ec
        intro s E Q hV hQ
        exact wpAny_evalPart_some (ih.f s E _ hV fun w V1 hp1 tk1 l1 hV1 r1 => by
          obtain ⟨u, rfl⟩ := r1
          exact hQ _ V1 hp1 tk1 l1 hV1 (.int i u))
      · exact none_el he
theorem evC_ok (H : Hyp c A n G ct) : ∀ (e : Option ME) (σ : List LV) (kn : KN) (tbl : List (Option Str)) (x : List Expr) (t : Bool) (env : Env) (V : View),
    mC G e kn tbl x = true → evC ct σ e = some t → EOk env kn → EC c V F env tbl σ → GivesR c A V (ifsT x env) fun _ b => b = t
  | none, σ, kn, tbl, x, t, env, V, hm, he, Eo, ec => by
    (refine some_el he fun qq => ?_; subst qq; clear he)
    have hx : x = [] := List.isEmpty_iff.mp hm
    subst hx
    exact GivesR.pure rfl
  | some e, σ, kn, tbl, x, t, env, V, hm, he, Eo, ec => by
    replace hm := one_inv (show x_one (mE G e kn tbl) x = true from hm)
    obtain ⟨v, rfl, hm⟩ := hm
    · have ho := evB_bool he
      have ih := ev_ok H e false σ kn tbl v _ env V hm ho Eo ec
      intro s E Q hV hQ
      show wpAny c.M A (forIn [v] true _) Q E s
      rw [List.forIn_cons]
      refine wpAny_bind (wpAny_bind (ih.2 t rfl s E _ hV fun b V1 hp1 tk1 l1 hV1 r1 => ?_))
      subst r1
      exact wpAny_pure (wpAny_pure (hQ _ V1 hp1 tk1 l1 hV1 rfl))
theorem evL_ok (H : Hyp c A n G ct) : ∀ (l : List ME) (r : Bool) (σ : List LV) (kn : KN) (tbl : List (Option Str)) (x : List Expr) (ts : List T) (env : Env) (V : View) (p : Pos),
    mL G l kn tbl x = true → evL ct r σ l = some ts → EOk env kn → EC c V F env tbl σ → GivesR c A V (spliced (backTo p (starEach x env))) fun V' vs => OkRL c r V' ts vs
  | [], r, σ, kn, tbl, x, ts, env, V, p, hm, he, Eo, ec => by
    (refine some_el he fun qq => ?_; subst qq; clear he)
    rw [mL_nil hm]
    exact fun s E Q hV hQ => wpAny_items_nil (hQ _ V s.heap s.toks (VLe.refl V) hV ⟨rfl, fun _ => rfl⟩)
  | e :: es, r, σ, kn, tbl, x, ts, env, V, p, hm, he, Eo, ec => by
    refine mL_cons_el hm fun v vs ex h1 h2 h3 => ?_
    clear hm; subst ex
    refine Classical.byContradiction fun hCC => ?_
    refine xa_1_2 (Option.bind_eq_some_iff.mp he) fun t ht he => ?_
    refine xa_1_2 (Option.bind_eq_some_iff.mp he) fun ts' hts q => ?_
    refine hCC ?_
    clear hCC
    (refine some_el q fun qq => ?_; subst qq; clear q)
    have ih := ev_ok H e r σ kn tbl v t env V h2 ht Eo ec
    intro s E Q hV hQ
    refine wpAny_items_cons (ih.1 s E _ hV fun w V1 hp1 tk1 l1 hV1 r1 => evL_ok H es r σ kn tbl vs ts' env V1 p h3 hts Eo (ec.mono l1) _ E _ hV1 fun ws V2 hp2 tk2 l2 hV2 r2 => ?_) (star_cons h1)
    exact hQ _ V2 hp2 tk2 (l1.trans l2) hV2 ⟨⟨w, ws, rfl, r1.1.mono l2, r2.1⟩, fun h => ⟨w, ws, rfl, Is.mono l2.toF _ _ (r1.2 h), r2.2 h⟩⟩
theorem evP_ok (H : Hyp c A n G ct) : ∀ (l : List ME) (ks : List Str) (σ : List LV) (kn : KN) (tbl : List (Option Str)) (kvs : List (Option Expr)) (x : List Expr) (ts : List T) (env : Env) (V : View) (p : Pos),
    mL G l kn tbl x = true → evL ct false σ l = some ts → kvs.map keyOf = ks.map some → kvs.length = x.length → EOk env kn → EC c V F env tbl σ →
    GivesR c A V (evalPairs (pairTrees kvs x env p)) fun V' us => ∃ ws, Carries (PySem.strKind c.prog c.w) us (ks.zip ws) ∧ ks.length = ws.length ∧ IsL c V' ts ws
  | [], ks, σ, kn, tbl, kvs, x, ts, env, V, p, hm, he, hk, hl, Eo, ec => by
    (refine some_el he fun qq => ?_; subst qq; clear he)
    have hx := mL_nil hm
    subst hx
    obtain rfl : kvs = [] := List.length_eq_zero_iff.mp hl
    obtain rfl : ks = [] := by
      cases ks with
      | nil => rfl
      | cons k ks => cases hk
    exact fun s E Q hV hQ => pairTrees_nil_walk (hQ _ V s.heap s.toks (VLe.refl V) hV ⟨[], trivial, rfl, rfl⟩)
  | e :: es, ks, σ, kn, tbl, kvs, x, ts, env, V, p, hm, he, hk, hl, Eo, ec => by
    refine mL_cons_el hm fun v vs ex h1 h2 h3 => ?_
    clear hm; subst ex
    refine Classical.byContradiction fun hCC => ?_
    refine xa_1_2 (Option.bind_eq_some_iff.mp he) fun t ht he => ?_
    refine xa_1_2 (Option.bind_eq_some_iff.mp he) fun ts' hts q => ?_
    refine hCC ?_
    clear hCC
    (refine some_el q fun qq => ?_; subst qq; clear q)
    cases kvs with
    | nil => cases hl
    | cons k kvs =>
      cases ks with
      | nil => cases hk
      | cons k' ks =>
        rw [List.map_cons, List.map_cons] at hk
        refine Classical.byContradiction fun hCC => ?_
        obtain ⟨hk1, hk2⟩ := List.cons.inj hk
        refine xa_2_1 (key_shape hk1) fun j q rq0 => ?_
        subst rq0
        refine hCC ?_
        clear hCC
        have ih := ev_ok H e false σ kn tbl v t env V h2 ht Eo ec
        intro s E Q hV hQ
        refine pairTrees_cons_walk (wpAny_Constant_str ?_)
        refine ih.f _ E _ hV fun w V1 hp1 tk1 l1 hV1 r1 => ?_
        refine evP_ok H es ks σ kn tbl kvs vs ts' env V1 p h3 hts hk2 (by simpa using hl) Eo (ec.mono l1) _ E _ hV1 fun us V2 hp2 tk2 l2 hV2 r2 => ?_
        refine Classical.byContradiction fun hCC => ?_
        refine xa_1_3 (r2) fun ws a1 a2 a3 => ?_
        try clear r2
        refine hCC ?_
        clear hCC
        exact hQ _ V2 hp2 tk2 (l1.trans l2) hV2 ⟨w :: ws, ⟨(strKind_is c.prog c.w k' _), rfl, a1⟩, by simp [a2], ⟨w, ws, rfl, Is.mono l2.toF _ _ r1, a3⟩⟩
theorem evF_ok (H : Hyp c A n G ct) : ∀ (l : List ME) (σ : List LV) (kn : KN) (tbl : List (Option Str)) (x : List Expr) (ts : List T) (env : Env) (V : View) (acc : Str) (t : T),
    mF G l kn tbl x = true → evL ct false σ l = some ts → fjoin acc ts = some t → EOk env kn → EC c V F env tbl σ → ∀ (s : Shared) (E : Value → Shared → Prop) (Q : Str → Shared → Prop), Vw c V s.heap →
    (∀ out V' h' tk, VLe V V' → Vw c V' h' → out.length ≤ lim → t = .str out → Q out { s with heap := h', toks := tk }) → Joins c.M A E (evalEach x env) acc Q s
  | [], σ, kn, tbl, x, ts, env, V, acc, t, hm, he, hj, Eo, ec => by
    (refine some_el he fun qq => ?_; subst qq; clear he)
    rw [mF_nil hm]
    intro s E Q hV hQ
    replace hj : (if acc.length ≤ lim then some (T.str acc) else none) = some t := hj
    split at hj
    · rename_i hl; (refine some_el hj fun qq => ?_; subst qq; clear hj)
      exact hQ acc V s.heap s.toks (VLe.refl V) hV hl rfl
    · exact none_el hj
  | e :: es, σ, kn, tbl, x, ts, env, V, acc, t, hm, he, hj, Eo, ec => by
    refine mF_cons_el hm fun v vs ex h3 hv => ?_
    clear hm; subst ex
    refine Classical.byContradiction fun hCC => ?_
    refine xa_1_2 (Option.bind_eq_some_iff.mp he) fun u hu he => ?_
    refine xa_1_2 (Option.bind_eq_some_iff.mp he) fun ts' hts q => ?_
    refine hCC ?_
    clear hCC
    (refine some_el q fun qq => ?_; subst qq; clear q)
    replace hj : (match fld u with | some x => if acc.length + x.length ≤ lim then fjoin (acc ++ x) ts' else none | none => none) = some t := hj
    split at hj
    · rename_i y hy
      split at hj
      · rename_i hl
        intro s E Q hV hQ
        have hlen : (acc ++ y).length ≤ sizeLine := by rw [Str.length_append]; exact Nat.le_trans hl lim_line
        have step : ∀ (s₁ : Shared) (V1 : View), VLe V V1 → Vw c V1 s₁.heap → (∃ h' tk, s₁ = { s with heap := h', toks := tk }) → Joins c.M A E (evalEach vs env) (acc ++ y) Q s₁ := by
          rintro s₁ V1 l1 hV1 ⟨h', tk, rfl⟩
          exact evF_ok H es σ kn tbl vs ts' env V1 (acc ++ y) t h3 hts hj Eo (ec.mono l1) _ E Q hV1 fun out V2 h2 tk2 l2 hV2 hl2 ho => hQ out V2 h2 tk2 (l1.trans l2) hV2 hl2 ho
        rcases hv with ⟨w, p, rfl, hw⟩ | ⟨⟨s', k, p, rfl⟩, hw⟩
        · have ih := ev_ok H e false σ kn tbl w u env V hw hu Eo ec
          refine wpAny_FormattedValue_plain (ih.f s E _ hV fun z V1 hp1 tk1 l1 hV1 r1 => fld_gives hy r1 (by omega) _ E _ hV1 fun z' V2 hp2 tk2 l2 hV2 r2 => ?_)
          obtain ⟨tk', rfl⟩ := r2
          exact ⟨y, tk', rfl, hlen, step _ V2 (l1.trans l2) hV2 ⟨hp2, tk2, rfl⟩⟩
        · have ih := ev_ok H e false σ kn tbl _ u env V hw hu Eo ec
          refine ih.f s E _ hV fun z V1 hp1 tk1 l1 hV1 r1 => ?_
          have hus : ∃ s₀, u = .str s₀ := by
            cases e <;> first | exact absurd hw Bool.false_ne_true | ((first | exact none_el hu | (refine some_el hu fun qq => ?_; subst qq; clear hu)); exact ⟨_, rfl⟩) | exact none_el hu
          obtain ⟨s₀, rfl⟩ := hus
          (refine some_el hy fun qq => ?_; subst qq; clear hy)
          obtain ⟨tk', rfl⟩ := r1
          exact ⟨_, tk', rfl, hlen, step _ V1 l1 hV1 ⟨hp1, tk1, rfl⟩⟩
      · exact none_el hj
    · exact none_el hj
theorem evB_ok (H : Hyp c A n G ct) : ∀ (l : List ME) (σ : List LV) (kn : KN) (tbl : List (Option Str)) (op : BoolOp) (x : List Expr) (b : Bool) (env : Env) (V : View) (p : Pos),
    mL G l kn tbl x = true → evB ct σ op l = some b → EOk env kn → EC c V F env tbl σ → Gives c A V (boolOp p op (evalEach x env)) (.bool b) ∧ GivesR c A V (allTrue op x env) fun _ b' => b' = b
  | [], σ, kn, tbl, op, x, b, env, V, p, hm, he, Eo, ec => by exact none_el he
  | [e], σ, kn, tbl, op, x, b, env, V, p, hm, he, Eo, ec => by
    refine mL_cons_el hm fun v vs ex h1 h2 h3 => ?_
    clear hm; subst ex
    rw [mL_nil h3]
    have ho := evB_bool he
    have ih := ev_ok H e false σ kn tbl v _ env V h2 ho Eo ec
    refine ⟨ih.f, fun s E Q hV hQ => ?_⟩
    cases op with
    | And =>
      refine wpAny_allTrue_And_cons (ih.2 b rfl s E _ hV fun b' V1 hp1 tk1 l1 hV1 r1 => ?_)
      subst r1
      cases b' with
      | true => exact wpAny_allTrue_And_nil (hQ _ V1 hp1 tk1 l1 hV1 rfl)
      | false => exact hQ _ V1 hp1 tk1 l1 hV1 rfl
    | Or =>
      refine wpAny_allTrue_Or_cons (ih.2 b rfl s E _ hV fun b' V1 hp1 tk1 l1 hV1 r1 => ?_)
      subst r1
      cases b' with
      | false => exact wpAny_allTrue_Or_nil (hQ _ V1 hp1 tk1 l1 hV1 rfl)
      | true => exact hQ _ V1 hp1 tk1 l1 hV1 rfl
  | e :: e' :: es, σ, kn, tbl, op, x, b, env, V, p, hm, he, Eo, ec => by
    refine mL_cons_el hm fun v vs ex h1 h2 h3 => ?_
    clear hm; subst ex
    refine mL_cons_el h3 fun v' vs' ex h1' h2' h3' => ?_
    refine Classical.byContradiction fun hCC => ?_
    subst ex
    refine xa_1_2 (Option.bind_eq_some_iff.mp he) fun t0 ht0 he => ?_
    refine xa_1_2 (Option.bind_eq_some_iff.mp he) fun b0 hb0 he => ?_
    refine hCC ?_
    clear hCC
    have := asB_some hb0; subst this
    have ih := ev_ok H e false σ kn tbl v _ env V h2 ht0 Eo ec
    have go : ∀ (V' : View), VLe V V' → evB ct σ op (e' :: es) = some b → Gives c A V' (boolOp p op (evalEach (v' :: vs') env)) (.bool b) ∧ GivesR c A V' (allTrue op (v' :: vs') env) fun _ b' => b' = b := fun V' l hb => evB_ok H (e' :: es) σ kn tbl op (v' :: vs') b env V' p h3 hb Eo (ec.mono l)
    constructor
    · intro s E Q hV hQ
      show wpAny c.M A (do let v ← eval v env; standAt p; let t ← holding [v] (truthy v); match op, t with | .And, false | .Or, true => pure v | _, _ => boolOp p op (evalEach (v' :: vs') env)) Q E s
      refine wpAny_bind (ih.f s E _ hV fun w V1 hp1 tk1 l1 hV1 r1 => wpAny_bind (wpAny_standAt (wpAny_bind (wpAny_holding (truthy_gives r1 _ E _ hV1 fun b1 V2 hp2 tk2 l2 hV2 r2 => ?_)))))
      subst r2
      cases op <;> cases b1 <;> first
        | ((refine some_el he fun qq => ?_; subst qq; clear he); exact wpAny_pure (hQ _ V2 hp2 tk2 (l1.trans l2) hV2 (Is.mono l2.toF _ _ r1)))
        | exact (go V2 (l1.trans l2) he).1 _ E Q hV2 fun z V3 hp3 tk3 l3 hV3 r3 => hQ z V3 hp3 tk3 ((l1.trans l2).trans l3) hV3 r3
    · intro s E Q hV hQ
      cases op with
      | And =>
        refine wpAny_allTrue_And_cons (ih.2 b0 rfl s E _ hV fun b' V1 hp1 tk1 l1 hV1 r1 => ?_)
        subst r1
        cases b' with
        | true => exact (go V1 l1 he).2 _ E Q hV1 fun z V3 hp3 tk3 l3 hV3 r3 => hQ z V3 hp3 tk3 (l1.trans l3) hV3 r3
        | false => (refine some_el he fun qq => ?_; subst qq; clear he); exact hQ _ V1 hp1 tk1 l1 hV1 rfl
      | Or =>
        refine wpAny_allTrue_Or_cons (ih.2 b0 rfl s E _ hV fun b' V1 hp1 tk1 l1 hV1 r1 => ?_)
        subst r1
        cases b' with
        | false => exact (go V1 l1 he).2 _ E Q hV1 fun z V3 hp3 tk3 l3 hV3 r3 => hQ z V3 hp3 tk3 (l1.trans l3) hV3 r3
        | true => (refine some_el he fun qq => ?_; subst qq; clear he); exact hQ _ V1 hp1 tk1 l1 hV1 rfl
end
set_option tactic.hygienic false
end
end Mine
end
section
open PySem PySem.W PySem.Calls PyProof.Rows PySem.Spec PySem.SeqAt
set_option genInjectivity false
set_option tactic.hygienic false
namespace Mine
inductive MS where
  | asg (i : Nat) (e : ME)
  | asgF (i : Nat) (e : ME)
  | asgD (i : Nat)
  | unp (is : List Nat) (e : ME)
  | aug (i : Nat) (e : ME)
  | app (i : Nat) (e : ME)
  | ext (i : Nat) (e : ME)
  | rev (i : Nat)
  | put (i : Nat) (k e : ME)
  | setd (i : Nat) (k e : ME)
  | frz (i : Nat)
  | shr (i : Nat)
  | exp (e : ME)
  | asgK (i : Nat) (nm : Str) (f : Addr) (l : List ME)
  | retO (i : Nat)
  | newV (i : Nat) (l : List ME)
  | setA (i : Nat) (e : ME)
  | ret (e : ME)
  | ite (t : ME) (a b : List MS)
  | forI (i : Nat) (it : ME) (b : List MS)
  | forU (is : List Nat) (it : ME) (b : List MS)
  | forL (i j g : Nat) (e : ME)
  | whl (k : Nat) (t : ME) (b : List MS)
  | opq
inductive Out where
  | nxt (σ : List LV)
  | ret (t : T)
  | retO (l : List T)
noncomputable def Out.ctorIdx (t : Out) : Nat := @Out.casesOn (fun _ => Nat) t (fun _ => 0) (fun _ => 1) fun _ => 2
noncomputable def setAll : List LV → List Nat → List T → Option (List LV)
  | σ, [], [] => some σ
  | σ, i :: is, t :: ts => setAll (σ.set i (.frz t)) is ts
  | _, _, _ => none
noncomputable def dputAt {α : Type} : List Str → List α → Str → α → List α
  | k :: ks, t :: ts, x, u => if k = x then u :: ts else t :: dputAt ks ts x u
  | _, ts, _, _ => ts
noncomputable def frzV : LV → Option T
  | .own l => some (.list l)
  | .ownd ks l => some (.dict ks l)
  | .owndl ks ls => some (.dict ks (ls.map .list))
  | .ownv k i a => some (.vec k i a)
  | _ => none
noncomputable def appAt : List Str → List (List T) → Str → T → List (List T)
  | k :: ks, l :: ls, x, u => if k = x then (l ++ [u]) :: ls else l :: appAt ks ls x u
  | _, ls, _, _ => ls
noncomputable def asDl : LV → Option (List Str × List (List T))
  | .owndl ks ls => some (ks, ls)
  | .ownd [] [] => some ([], [])
  | _ => none
noncomputable def setdV (lv : LV) (k t : T) : Option LV := match asDl lv, k with
  | some (ks, ls), .str x => if ks.length < 1000 ∧ (ls.all fun l => decide (l.length < 1000)) = true then
      if ks.contains x then some (.owndl ks (appAt ks ls x t)) else some (.owndl (ks ++ [x]) (ls ++ [[t]])) else none
  | _, _ => none
noncomputable def putV (lv : LV) (k t : T) : Option LV := match lv, k with
  | .ownd ks l, .str x => if ks.length < 1000 then
      if ks.contains x then some (.ownd ks (dputAt ks l x t)) else some (.ownd (ks ++ [x]) (l ++ [t])) else none
  | _, _ => none
noncomputable def runFor (step : List LV → T → Option Out) : List T → List LV → Option Out
  | [], σ => some (.nxt σ)
  | t :: ts, σ => match step σ t with
    | some (.nxt σ') => runFor step ts σ'
    | r => r
noncomputable def runWhl (test : List LV → Option Bool) (body : List LV → Option Out) : Nat → List LV → Option Out
  | 0, _ => none
  | k + 1, σ => match test σ with
    | some true => match body σ with
      | some (.nxt σ') => runWhl test body k σ'
      | r => r
    | some false => some (.nxt σ)
    | none => none
noncomputable def ownOf : Option LV → Option (List T)
  | some (.own l) => some l
  | _ => none
mutual
noncomputable def ex (ct : Addr → List T → Option T) : MS → List LV → Option Out
  | .asg i e, σ => do pure (.nxt (σ.set i (.frz (← ev ct false σ e))))
  | .asgF i e, σ => match ev ct false σ e with
    | some (.list l) => some (.nxt (σ.set i (.own l)))
    | _ => none
  | .asgD i, σ => some (.nxt (σ.set i (.ownd [] [])))
  | .unp is e, σ => match ev ct false σ e with
    | some (.tup ts) => (setAll σ is ts).map .nxt
    | _ => none
  | .aug i e, σ => match σ[i]?, ev ct false σ e with
    | some (.frz (.int a)), some (.int b) => some (.nxt (σ.set i (.frz (.int (a + b)))))
    | _, _ => none
  | .app i e, σ => do
    let l ← ownOf σ[i]?
    let t ← ev ct false σ e
    if l.length < lim then pure (.nxt (σ.set i (.own (l ++ [t])))) else none
  | .ext i e, σ => do
    let l ← ownOf σ[i]?
    match ev ct false σ e with
    | some (.list ts) => if l.length + ts.length < lim then pure (.nxt (σ.set i (.own (l ++ ts)))) else none
    | _ => none
  | .rev i, σ => do
    let l ← ownOf σ[i]?
    if l.length < lim then pure (.nxt (σ.set i (.own l.reverse))) else none
  | .put i k e, σ => do
    let lv ← σ[i]?
    let t ← ev ct false σ e
    let kk ← ev ct false σ k
    pure (.nxt (σ.set i (← putV lv kk t)))
  | .setd i k e, σ => do
    let lv ← σ[i]?
    let kk ← ev ct false (σ.set i .undef) k
    let t ← ev ct false (σ.set i .undef) e
    pure (.nxt (σ.set i (← setdV lv kk t)))
  | .frz i, σ => do
    let lv ← σ[i]?
    pure (.nxt (σ.set i (.frz (← frzV lv))))
  | .shr i, σ => match σ[i]? with
    | some (.frz (.vec _ _ _)) => some (.nxt σ)
    | _ => none
  | .newV i l, σ => match evL ct false σ l with
    | some [k, t] => some (.nxt (σ.set i (.ownv k t .none)))
    | _ => none
  | .setA i e, σ => match σ[i]?, ev ct false σ e with
    | some (.ownv k t _), some u => some (.nxt (σ.set i (.ownv k t u)))
    | _, _ => none
  | .exp e, σ => do
    let _ ← ev ct false σ e
    pure (.nxt σ)
  | .asgK i _ f l, σ => do
    let ts ← evL ct false σ l
    match ct f ts with
    | some (.list l') => pure (.nxt (σ.set i (.own l')))
    | _ => none
  | .retO i, σ => do pure (.retO (← ownOf σ[i]?))
  | .ret e, σ => do pure (.ret (← ev ct false σ e))
  | .ite t a b, σ => do
    match ← asB (← ev ct false σ t) with
    | true => exs ct a σ
    | false => exs ct b σ
  | .forI i it b, σ => do runFor (fun σ t => exs ct b (σ.set i (.frz t))) (← iterT (← ev ct false σ it)) σ
  | .forU is it b, σ => do
    runFor (fun σ t => match t with
      | .tup ts => (setAll σ is ts).bind (exs ct b)
      | _ => none) (← iterT (← ev ct false σ it)) σ
  | .forL i j g e, σ => do
    let l ← ownOf σ[i]?
    if l.length ≤ lim ∧ i ≠ j ∧ i ≠ g then
      runFor (fun σ t => (ev ct false (σ.set j (.frz t)) e).map fun u => .nxt ((σ.set j (.frz t)).set g (.frz u))) l σ
    else none
  | .whl k t b, σ => runWhl (fun σ => do asB (← ev ct false σ t)) (exs ct b) k σ
  | .opq, _ => none
noncomputable def exs (ct : Addr → List T → Option T) : List MS → List LV → Option Out
  | [], σ => some (.nxt σ)
  | m :: ms, σ => match ex ct m σ with
    | some (.nxt σ') => exs ct ms σ'
    | r => r
end
noncomputable def isCompX (x : Expr) : Bool := x.ctorIdx == 8 || x.ctorIdx == 9 || x.ctorIdx == 10
noncomputable def isListX (x : Expr) : Bool := x.ctorIdx == 24
noncomputable def isListC (x : Expr) : Bool := x.ctorIdx == 8
noncomputable def x_names (kn : KN) (tbl : List (Option Str)) : List Nat → List Expr → Bool
  | [], l => l.isEmpty
  | i :: is, l => cns l fun v l => vName v fun y _ => vOk kn tbl i y && x_names kn tbl is l
noncomputable def s_asg (kn : KN) (tbl : List (Option Str)) (i : Nat) (e : Expr → Bool) (x : Stmt) : Bool := wAsg x fun ts v _ => one ts fun t => vName t fun y _ => vOk kn tbl i y && !isCompX v && e v
theorem s_asg_el {kn tbl i e} {x : Stmt} {C : Prop} (h : s_asg kn tbl i e x = true) (f : ∀ y q v p, x = .Assign [.Name y q] v p → (vOk kn tbl i y && !isCompX v && e v) = true → C) : C := by
  refine wAsg_el h fun ts v p q1 h => ?_
  refine one_el h fun t q2 h => ?_
  refine vName_el h fun y q q3 h => ?_
  exact f y q v p (by simp only [q1, q2, q3]) h
noncomputable def s_asgF (kn : KN) (tbl : List (Option Str)) (i : Nat) (e : Expr → Bool) (x : Stmt) : Bool := wAsg x fun ts v _ => one ts fun t => vName t fun y _ => vOk kn tbl i y && (isListX v || isListC v) && e v
theorem s_asgF_el {kn tbl i e} {x : Stmt} {C : Prop} (h : s_asgF kn tbl i e x = true) (f : ∀ y q v p, x = .Assign [.Name y q] v p → (vOk kn tbl i y && (isListX v || isListC v) && e v) = true → C) : C := by
  refine wAsg_el h fun ts v p q1 h => ?_
  refine one_el h fun t q2 h => ?_
  refine vName_el h fun y q q3 h => ?_
  exact f y q v p (by simp only [q1, q2, q3]) h
noncomputable def s_asgD (kn : KN) (tbl : List (Option Str)) (i : Nat) (x : Stmt) : Bool := wAsg x fun ts v _ => one ts fun t => vName t fun y _ => vDct v fun ks vs _ => ks.isEmpty && vs.isEmpty && vOk kn tbl i y
theorem s_asgD_el {kn tbl i} {x : Stmt} {C : Prop} (h : s_asgD kn tbl i x = true) (f : ∀ y q r p, x = .Assign [.Name y q] (.Dict [] [] r) p → vOk kn tbl i y = true → C) : C := by
  refine wAsg_el h fun ts v p q1 h => ?_
  refine one_el h fun t q2 h => ?_
  refine vName_el h fun y q q3 h => ?_
  refine vDct_el h fun ks vs r q4 h => ?_
  have e1 := emp (bt (bt h).1).1
  have e2 := emp (bt (bt h).1).2
  exact f y q r p (by simp only [q1, q2, q3, q4, e1, e2]) ((bt h).2)
noncomputable def isTupX (x : Expr) : Bool := x.ctorIdx == 25
noncomputable def s_unp (kn : KN) (tbl : List (Option Str)) (is : List Nat) (e : Expr → Bool) (x : Stmt) : Bool := wAsg x fun ts v _ => one ts fun t => vTup t fun l _ _ => x_names kn tbl is l && !isTupX v && e v
theorem s_unp_el {kn tbl is e} {x : Stmt} {C : Prop} (h : s_unp kn tbl is e x = true) (f : ∀ l k tp v p, x = .Assign [.Tuple l k tp] v p → (x_names kn tbl is l && !isTupX v && e v) = true → C) : C := by
  refine wAsg_el h fun ts v p q1 h => ?_
  refine one_el h fun t q2 h => ?_
  refine vTup_el h fun l k tp q3 h => ?_
  exact f l k tp v p (by simp only [q1, q2, q3]) h
noncomputable def s_aug (kn : KN) (tbl : List (Option Str)) (i : Nat) (e : Expr → Bool) (x : Stmt) : Bool := wAug x fun t op v _ => vName t fun y _ => op == .Add && (vOk kn tbl i y && e v)
theorem s_aug_el {kn tbl i e} {x : Stmt} {C : Prop} (h : s_aug kn tbl i e x = true) (f : ∀ y q v p, x = .AugAssign (.Name y q) .Add v p → (vOk kn tbl i y && e v) = true → C) : C := by
  refine wAug_el h fun t op v p q1 h => ?_
  refine vName_el h fun y q q2 h => ?_
  have e1 := eq_of_beq (bt h).1
  exact f y q v p (by simp only [q1, q2, e1]) ((bt h).2)
noncomputable def s_call (kn : KN) (tbl : List (Option Str)) (i : Nat) (nm : Str) (e : List Expr → Bool) (x : Stmt) : Bool :=
  wEx x fun c _ => vCall c fun g as ks p => vAttr g fun t nm' ap => vName t fun y _ => ks.isEmpty && (vOk kn tbl i y && nm' == nm && ap.endLine == p.line && decide (as.length < 20) && e as)
theorem s_call_el {kn tbl i nm e} {x : Stmt} {C : Prop} (h : s_call kn tbl i nm e x = true) (f : ∀ y q nm' ap as p pp, x = .Expr (.Call (.Attribute (.Name y q) nm' ap) as [] p) pp → (vOk kn tbl i y && nm' == nm && ap.endLine == p.line && decide (as.length < 20) && e as) = true → C) : C := by
  refine wEx_el h fun c pp q1 h => ?_
  refine vCall_el h fun g as ks p q2 h => ?_
  refine vAttr_el h fun t nm' ap q3 h => ?_
  refine vName_el h fun y q q4 h => ?_
  have e1 := emp (bt h).1
  exact f y q nm' ap as p pp (by simp only [q1, q2, q3, q4, e1]) ((bt h).2)
noncomputable def s_put (kn : KN) (tbl : List (Option Str)) (i : Nat) (k e : Expr → Bool) (x : Stmt) : Bool := wAsg x fun ts v _ => one ts fun t => vSub t fun u ix _ => vName u fun y _ => vOk kn tbl i y && !isCompX v && k ix && e v
theorem s_put_el {kn tbl i k e} {x : Stmt} {C : Prop} (h : s_put kn tbl i k e x = true) (f : ∀ y q ix tp v p, x = .Assign [.Subscript (.Name y q) ix tp] v p → (vOk kn tbl i y && !isCompX v && k ix && e v) = true → C) : C := by
  refine wAsg_el h fun ts v p q1 h => ?_
  refine one_el h fun t q2 h => ?_
  refine vSub_el h fun u ix tp q3 h => ?_
  refine vName_el h fun y q q4 h => ?_
  exact f y q ix tp v p (by simp only [q1, q2, q3, q4]) h
noncomputable def s_setd (kn : KN) (tbl : List (Option Str)) (i : Nat) (k e : Expr → Bool) (x : Stmt) : Bool :=
  wEx x fun c _ => vCall c fun g as ks p => vAttr g fun c2 nm ap => vCall c2 fun g2 as2 ks2 p' => vAttr g2 fun t nm' ap' => vName t fun y _ => cns as2 fun ke r => one r fun l => vLst l fun ls _ => one as fun v =>
    ks.isEmpty && ks2.isEmpty && ls.isEmpty && (vOk kn tbl i y && nm' == ("setdefault" : Str) && nm == ("append" : Str) && ap'.endLine == p'.line && ap.endLine == p.line && !isStar ke && !isStar v && k ke && e v)
theorem s_setd_el {kn tbl i k e} {x : Stmt} {C : Prop} (h : s_setd kn tbl i k e x = true) (f : ∀ y q nm' ap' ke lp p' nm ap v p pp, x = .Expr (.Call (.Attribute (.Call (.Attribute (.Name y q) nm' ap') [ke, .List [] lp] [] p') nm ap) [v] [] p) pp → (vOk kn tbl i y && nm' == ("setdefault" : Str) && nm == ("append" : Str) && ap'.endLine == p'.line && ap.endLine == p.line && !isStar ke && !isStar v && k ke && e v) = true → C) : C := by
  refine wEx_el h fun c pp q1 h => ?_
  refine vCall_el h fun g as ks p q2 h => ?_
  refine vAttr_el h fun c2 nm ap q3 h => ?_
  refine vCall_el h fun g2 as2 ks2 p' q4 h => ?_
  refine vAttr_el h fun t nm' ap' q5 h => ?_
  refine vName_el h fun y q q6 h => ?_
  refine cns_el h fun ke r q7 h => ?_
  refine one_el h fun l q8 h => ?_
  refine vLst_el h fun ls lp q9 h => ?_
  refine one_el h fun v q10 h => ?_
  have e1 := emp (bt (bt (bt h).1).1).1
  have e2 := emp (bt (bt (bt h).1).1).2
  have e3 := emp (bt (bt h).1).2
  exact f y q nm' ap' ke lp p' nm ap v p pp (by simp only [q1, q2, q3, q4, q5, q6, q7, q8, q9, q10, e1, e2, e3]) ((bt h).2)
noncomputable def isTrueC (x : Expr) : Bool := vConst x fun c _ _ => match c with | .bool b => b | _ => false
noncomputable def s_shr (kn : KN) (tbl : List (Option Str)) (i : Nat) (x : Stmt) : Bool := wAsg x fun ts v _ => one ts fun t => vAttr t fun u nm _ => vName u fun y _ => isTrueC v && (vOk kn tbl i y && nm == ("shared" : Str))
theorem s_shr_el {kn tbl i} {x : Stmt} {C : Prop} (h : s_shr kn tbl i x = true) (f : ∀ y q nm q' kk p' p, x = .Assign [.Attribute (.Name y q) nm q'] (.Constant (.bool true) kk p') p → (vOk kn tbl i y && nm == ("shared" : Str)) = true → C) : C := by
  refine wAsg_el h fun ts v p q1 h => ?_
  refine one_el h fun t q2 h => ?_
  refine vAttr_el h fun u nm q' q3 h => ?_
  refine vName_el h fun y q q4 h => ?_
  refine vConst_el (bt h).1 fun c kk p' q5 hc => ?_
  cases c with
  | bool b => exact f y q nm q' kk p' p (by simp only [q1, q2, q3, q4, q5, show b = true from hc]) (bt h).2
  | _ => exact ff_el hc
noncomputable def s_newV (kn : KN) (tbl : List (Option Str)) (i : Nat) (l : List Expr → Bool) (x : Stmt) : Bool := wAsg x fun ts v _ => one ts fun t => vName t fun y _ => vCall v fun g as ks _ => vName g fun z _ => ks.isEmpty && (vOk kn tbl i y && z == ("Vector" : Str) && gOk kn z && !as.isEmpty && l as)
theorem s_newV_el {kn tbl i l} {x : Stmt} {C : Prop} (h : s_newV kn tbl i l x = true) (f : ∀ y q z pz as p pp, x = .Assign [.Name y q] (.Call (.Name z pz) as [] p) pp → (vOk kn tbl i y && z == ("Vector" : Str) && gOk kn z && !as.isEmpty && l as) = true → C) : C := by
  refine wAsg_el h fun ts v pp q1 h => ?_
  refine one_el h fun t q2 h => ?_
  refine vName_el h fun y q q3 h => ?_
  refine vCall_el h fun g as ks p q4 h => ?_
  refine vName_el h fun z pz q5 h => ?_
  have e1 := emp (bt h).1
  exact f y q z pz as p pp (by simp only [q1, q2, q3, q4, q5, e1]) ((bt h).2)
noncomputable def s_setA (kn : KN) (tbl : List (Option Str)) (i : Nat) (e : Expr → Bool) (x : Stmt) : Bool := wAsg x fun ts v _ => one ts fun t => vAttr t fun u nm _ => vName u fun y _ => vOk kn tbl i y && nm == ("attrs" : Str) && !isCompX v && e v
theorem s_setA_el {kn tbl i e} {x : Stmt} {C : Prop} (h : s_setA kn tbl i e x = true) (f : ∀ y q nm q' v p, x = .Assign [.Attribute (.Name y q) nm q'] v p → (vOk kn tbl i y && nm == ("attrs" : Str) && !isCompX v && e v) = true → C) : C := by
  refine wAsg_el h fun ts v p q1 h => ?_
  refine one_el h fun t q2 h => ?_
  refine vAttr_el h fun u nm q' q3 h => ?_
  refine vName_el h fun y q q4 h => ?_
  exact f y q nm q' v p (by simp only [q1, q2, q3, q4]) h
noncomputable def s_exp (e : Expr → Bool) (x : Stmt) : Bool := wEx x fun v _ => !isCompX v && e v
theorem s_exp_el {e} {x : Stmt} {C : Prop} (h : s_exp e x = true) (f : ∀ v p, x = .Expr v p → (!isCompX v && e v) = true → C) : C :=
  wEx_el h f
noncomputable def s_asgK (G : Str → Option Value) (kn : KN) (tbl : List (Option Str)) (i : Nat) (nm : Str) (f : Addr) (l : List Expr → Bool) (x : Stmt) : Bool :=
  wAsg x fun ts v _ => one ts fun t => vName t fun y _ => vCall v fun g as ks _ => vName g fun z _ => ks.isEmpty && (vOk kn tbl i y && z == nm && gOk kn nm && G nm == some (.ref f) && freshFns.contains f && !as.isEmpty && l as)
theorem s_asgK_el {G kn tbl i nm f l} {x : Stmt} {C : Prop} (h : s_asgK G kn tbl i nm f l x = true) (f : ∀ y q z pz as p pp, x = .Assign [.Name y q] (.Call (.Name z pz) as [] p) pp → (vOk kn tbl i y && z == nm && gOk kn nm && G nm == some (.ref f) && freshFns.contains f && !as.isEmpty && l as) = true → C) : C := by
  refine wAsg_el h fun ts v pp q1 h => ?_
  refine one_el h fun t q2 h => ?_
  refine vName_el h fun y q q3 h => ?_
  refine vCall_el h fun g as ks p q4 h => ?_
  refine vName_el h fun z pz q5 h => ?_
  have e1 := emp (bt h).1
  exact f y q z pz as p pp (by simp only [q1, q2, q3, q4, q5, e1]) ((bt h).2)
noncomputable def s_ret (e : Expr → Bool) (x : Stmt) : Bool := wRet x fun v _ => x_isSome e v
theorem s_ret_el {e} {x : Stmt} {C : Prop} (h : s_ret e x = true) (f : ∀ v p, x = .Return (some v) p → e v = true → C) : C := by
  refine wRet_el h fun v p q1 h => ?_
  cases v with
  | none => exact ff_el h
  | some v => exact f v p q1 h
noncomputable def s_retO (kn : KN) (tbl : List (Option Str)) (i : Nat) (x : Stmt) : Bool := s_ret (fun v => vName v fun y _ => vOk kn tbl i y) x
theorem s_retO_el {kn tbl i} {x : Stmt} {C : Prop} (h : s_retO kn tbl i x = true) (f : ∀ y q p, x = .Return (some (.Name y q)) p → vOk kn tbl i y = true → C) : C := by
  refine s_ret_el h fun v p q1 h => ?_
  refine vName_el h fun y q q2 h => ?_
  exact f y q p (by simp only [q1, q2]) h
noncomputable def s_ite (t : Expr → Bool) (a b : List Stmt → Bool) (x : Stmt) : Bool := wIf x fun t' a' b' _ => t t' && a a' && b b'
theorem s_ite_el {t a b} {x : Stmt} {C : Prop} (h : s_ite t a b x = true) (f : ∀ t' a' b' p, x = .If t' a' b' p → (t t' && a a' && b b') = true → C) : C :=
  wIf_el h f
noncomputable def s_forI (kn : KN) (tbl : List (Option Str)) (i : Nat) (it : Expr → Bool) (b : List Stmt → Bool) (x : Stmt) : Bool := wFor x fun t it' b' r _ => vName t fun y _ => r.isEmpty && (vOk kn tbl i y && !isSetD it' && it it' && b b')
theorem s_forI_el {kn tbl i it b} {x : Stmt} {C : Prop} (h : s_forI kn tbl i it b x = true) (f : ∀ y q it' b' p, x = .For (.Name y q) it' b' [] p → (vOk kn tbl i y && !isSetD it' && it it' && b b') = true → C) : C := by
  refine wFor_el h fun t it' b' r p q1 h => ?_
  refine vName_el h fun y q q2 h => ?_
  have e1 := emp (bt h).1
  exact f y q it' b' p (by simp only [q1, q2, e1]) ((bt h).2)
noncomputable def s_forU (kn : KN) (tbl : List (Option Str)) (is : List Nat) (it : Expr → Bool) (b : List Stmt → Bool) (x : Stmt) : Bool := wFor x fun t it' b' r _ => vTup t fun l _ _ => r.isEmpty && (x_names kn tbl is l && !isSetD it' && it it' && b b')
theorem s_forU_el {kn tbl is it b} {x : Stmt} {C : Prop} (h : s_forU kn tbl is it b x = true) (f : ∀ l k q it' b' p, x = .For (.Tuple l k q) it' b' [] p → (x_names kn tbl is l && !isSetD it' && it it' && b b') = true → C) : C := by
  refine wFor_el h fun t it' b' r p q1 h => ?_
  refine vTup_el h fun l k q q2 h => ?_
  have e1 := emp (bt h).1
  exact f l k q it' b' p (by simp only [q1, q2, e1]) ((bt h).2)
noncomputable def s_forL (kn : KN) (tbl : List (Option Str)) (i j g : Nat) (e : Expr → Bool) (x : Stmt) : Bool :=
  wFor x fun t it b r _ => vName t fun y _ => vName it fun z _ => one b fun st => wAsg st fun ts v _ => one ts fun t2 => vName t2 fun u _ => r.isEmpty && (vOk kn tbl j y && vOk kn tbl i z && vOk kn tbl g u && !isCompX v && e v)
theorem s_forL_el {kn tbl i j g e} {x : Stmt} {C : Prop} (h : s_forL kn tbl i j g e x = true) (f : ∀ y py z pz u pu v pv p, x = .For (.Name y py) (.Name z pz) [.Assign [.Name u pu] v pv] [] p → (vOk kn tbl j y && vOk kn tbl i z && vOk kn tbl g u && !isCompX v && e v) = true → C) : C := by
  refine wFor_el h fun t it b r p q1 h => ?_
  refine vName_el h fun y py q2 h => ?_
  refine vName_el h fun z pz q3 h => ?_
  refine one_el h fun st q4 h => ?_
  refine wAsg_el h fun ts v pv q5 h => ?_
  refine one_el h fun t2 q6 h => ?_
  refine vName_el h fun u pu q7 h => ?_
  have e1 := emp (bt h).1
  exact f y py z pz u pu v pv p (by simp only [q1, q2, q3, q4, q5, q6, q7, e1]) ((bt h).2)
noncomputable def s_whl (t : Expr → Bool) (b : List Stmt → Bool) (x : Stmt) : Bool := wWhl x fun t' b' r _ => r.isEmpty && (t t' && b b')
theorem s_whl_el {t b} {x : Stmt} {C : Prop} (h : s_whl t b x = true) (f : ∀ t' b' p, x = .While t' b' [] p → (t t' && b b') = true → C) : C := by
  refine wWhl_el h fun t' b' r p q1 h => ?_
  have e1 := emp (bt h).1
  exact f t' b' p (by simp only [q1, e1]) ((bt h).2)
noncomputable def s_cons (f : Stmt → Bool) (g : List Stmt → Bool) (x : List Stmt) : Bool := match x with
  | v :: vs => f v && g vs
  | [] => false
mutual
noncomputable def mS (G : Str → Option Value) (kn : KN) (tbl : List (Option Str)) : MS → Stmt → Bool
  | .asg i e, x => s_asg kn tbl i (mE G e kn tbl) x
  | .asgF i e, x => s_asgF kn tbl i (mE G e kn tbl) x
  | .asgD i, x => s_asgD kn tbl i x
  | .unp is e, x => s_unp kn tbl is (mE G e kn tbl) x
  | .aug i e, x => s_aug kn tbl i (mE G e kn tbl) x
  | .app i e, x => s_call kn tbl i "append" (mL G [e] kn tbl) x
  | .ext i e, x => s_call kn tbl i "extend" (mL G [e] kn tbl) x
  | .rev i, x => s_call kn tbl i "reverse" (mL G [] kn tbl) x
  | .put i k e, x => s_put kn tbl i (mE G k kn tbl) (mE G e kn tbl) x
  | .setd i k e, x => s_setd kn tbl i (mE G k kn tbl) (mE G e kn tbl) x
  | .frz _, _ => false
  | .shr i, x => s_shr kn tbl i x
  | .exp e, x => s_exp (mE G e kn tbl) x
  | .asgK i nm f l, x => s_asgK G kn tbl i nm f (mL G l kn tbl) x
  | .retO i, x => s_retO kn tbl i x
  | .newV i l, x => s_newV kn tbl i (mL G l kn tbl) x
  | .setA i e, x => s_setA kn tbl i (mE G e kn tbl) x
  | .ret e, x => s_ret (mE G e kn tbl) x
  | .ite t a b, x => s_ite (mE G t kn tbl) (mSs G kn tbl a) (mSs G kn tbl b) x
  | .forI i it b, x => s_forI kn tbl i (mE G it kn tbl) (mSs G kn tbl b) x
  | .forU is it b, x => s_forU kn tbl is (mE G it kn tbl) (mSs G kn tbl b) x
  | .forL i j g e, x => s_forL kn tbl i j g (mE G e kn tbl) x
  | .whl _ t b, x => s_whl (mE G t kn tbl) (mSs G kn tbl b) x
  | .opq, _ => true
noncomputable def mSs (G : Str → Option Value) (kn : KN) (tbl : List (Option Str)) : List MS → List Stmt → Bool
  | [], x => x.isEmpty
  | m :: ms, x => match m with
    | .opq => true
    | .frz _ => mSs G kn tbl ms x
    | m => s_cons (mS G kn tbl m) (mSs G kn tbl ms) x
end
structure SC (c : Cfg) (V : View) (F : Addr) (env : Env) (kn : KN) (tbl : List (Option Str)) (σ : List LV) : Prop where
  ec : EC c V F env tbl σ
  loc : ∃ m, V env.locals = some (.ns F m)
  cel : ∀ (i : Nat) (x : Str), tbl[i]? = some (some x) → kn.lookup x = some .cell → ∃ a v, env.cells.lookup x = some a ∧ V a = some (.cl F i v)
  nd : ∀ (i j : Nat) (x : Str), tbl[i]? = some (some x) → tbl[j]? = some (some x) → i = j
  lt : tbl.length < 1000
noncomputable def VLeO (P : Nat → Prop) (F : Addr) (V V' : View) : Prop := ∀ a cl, V a = some cl → (cl.tag = none ∨ ∃ G k o, cl = .own G k o ∧ P (k % 1000)) → V' a = some cl
theorem VLeO.toF {P : Nat → Prop} {F : Addr} {V V' : View} (l : VLeO P F V V') : VLeF V V' := fun a cl e t => l a cl e (.inl t)
section
variable {c : Cfg} {A : Around} {V V' : View} {F : Addr} {n : Nat} {G : Str → Option Value} {ct : Addr → List T → Option T} {env : Env} {kn : KN} {tbl : List (Option Str)} {σ : List LV}
theorem RV.keep {P : Nat → Prop} (l : VLeO P F V V') {i : Nat} (hi : i < 1000) (hp : P i) {lv : LV} {v : Value} (h : RV c V F i lv v) : RV c V' F i lv v :=
  have hp2 : P (i % 1000) := (Nat.mod_eq_of_lt hi).symm ▸ hp
  h.gen l.toF (fun _ _ _ _ _ e h => l _ _ h (.inr ⟨_, _, _, rfl, e ▸ hp2⟩)) fun _ _ _ _ h => l _ _ h (.inr ⟨_, _, _, rfl, hp2⟩)
theorem SC.mono (l : VLe V V') (h : SC c V F env kn tbl σ) : SC c V' F env kn tbl σ :=
  ⟨h.ec.mono l, h.loc.imp fun m e => l _ _ e, fun i x a b => by obtain ⟨d, v, e1, e2⟩ := h.cel i x a b; exact ⟨d, v, e1, l _ _ e2⟩, h.nd, h.lt⟩
theorem SC.idx (h : SC c V F env kn tbl σ) {i : Nat} {x : Str} (e : tbl[i]? = some (some x)) : i < 1000 :=
  Nat.lt_trans (List.getElem?_eq_some_iff.mp e).1 h.lt
theorem SC.idx' (h : SC c V F env kn tbl σ) {i : Nat} {lv : LV} (e : σ[i]? = some lv) : i < 1000 := by
  have := (List.getElem?_eq_some_iff.mp e).1
  rw [h.ec.len] at this
  exact Nat.lt_trans this h.lt
theorem SC.own {i : Nat} {lv₀ lv : LV} (h : SC c V F env kn tbl σ) (hi : i < 1000) (l : VLeO (· ≠ i) F V V') (hn : ∀ a cl, V a = some cl → (∀ G k o, cl ≠ .own G k o) → V' a = some cl)
    (hv : ∀ x v, tbl[i]? = some (some x) → NameAt V F env i x v → RV c V F i lv₀ v → RV c V' F i lv v) (hs : σ[i]? = some lv₀) (hu : lv₀ ≠ .undef) : SC c V' F env kn tbl (σ.set i lv) := by
  refine ⟨⟨by rw [List.length_set]; exact h.ec.len, fun j x lv' a b d => ?_⟩, h.loc.imp fun m e => hn _ _ e (by intro _ _ _ q; cases q), fun j x a b => ?_, h.nd, h.lt⟩
  · have na : ∀ v, NameAt V F env j x v → NameAt V' F env j x v := by
      rintro v (⟨q1, H, m, q2, q3⟩ | ⟨q1, a, q2, q3⟩)
      · exact .inl ⟨q1, H, m, hn _ _ q2 (by intro _ _ _ q; cases q), q3⟩
      · exact .inr ⟨q1, a, q2, hn _ _ q3 (by intro _ _ _ q; cases q)⟩
    by_cases hj : j = i
    · subst hj
      refine xa_1_2 (h.ec.at_ j x lv₀ a hs hu) fun v r1 r2 => ?_
      rw [List.getElem?_set_self (by exact (List.getElem?_eq_some_iff.mp hs).1)] at b
      (refine some_el b fun qq => ?_; subst qq; clear b)
      exact ⟨v, na v r1, hv x v a r1 r2⟩
    · rw [List.getElem?_set_ne (Ne.symm hj)] at b
      refine xa_1_2 (h.ec.at_ j x lv' a b d) fun v r1 r2 => ?_
      exact ⟨v, na v r1, RV.keep l (h.idx a) hj r2⟩
  · obtain ⟨d, v, e1, e2⟩ := h.cel j x a b
    exact ⟨d, v, e1, hn _ _ e2 (by intro _ _ _ q; cases q)⟩
structure Stored (F : Addr) (V V' : View) (h h' : Heap) : Prop where
  ex : ∃ a cl cl₀, V' = V.set a cl ∧ V a = some cl₀ ∧ cl₀.tag = some F ∧ (∀ G k o, cl₀ ≠ .own G k o) ∧ cl.tag = some F ∧ Heap.ExtBut a h h'
theorem Stored.leS {h h' : Heap} (s : Stored F V V' h h') : VLeS F V V' := by
  refine Classical.byContradiction fun hCC => ?_
  refine xa_3_4 (s.ex) fun a cl cl₀ rq0 h1 h2 _ => ?_
  subst rq0
  refine hCC ?_
  clear hCC
  exact VLeS.set h1 h2
theorem Stored.keep {h h' : Heap} (s : Stored F V V' h h') {b : Addr} (hb : V b = none) : V' b = none ∧ ∀ o, h.get? b = some o → h'.get? b = some o := by
  refine Classical.byContradiction fun hCC => ?_
  refine xa_3_6 (s.ex) fun a cl cl₀ rq0 h1 h2 h3 h4 h5 => ?_
  subst rq0
  refine hCC ?_
  clear hCC
  have hab : b ≠ a := by rintro rfl; rw [hb] at h1; exact none_el h1
  exact ⟨by rw [View.set_ne _ _ hab]; exact hb, fun o e => h5 b o hab e⟩
theorem store_gives (Eo : EOk env kn) (h : SC c V F env kn tbl σ) {i : Nat} {x : Str} {lv : LV} {v : Value} (hv : vOk kn tbl i x = true) (hr : RV c V F i lv v) {s : Shared} {E : Value → Shared → Prop} {Q : Unit → Shared → Prop} (hV : Vw c V s.heap)
    (hQ : ∀ V' h' tk, Stored F V V' s.heap h' → Vw c V' h' → SC c V' F env kn tbl (σ.set i lv) → Q () { s with heap := h', toks := tk }) : wpAny c.M A (storeName env x v) Q E s := by
  simp only [vOk, Bool.and_eq_true, Bool.or_eq_true] at hv
  refine ya_3 (hv) fun h1 h2 h3 => ?_
  try clear hv
  have h1 : tbl[i]? = some (some x) := eq_of_beq h1
  have hi : i < σ.length := by rw [h.ec.len]; exact (List.getElem?_eq_some_iff.mp h1).1
  rcases h2 with h2 | h2
  · have h2 := eq_of_beq h2
    obtain ⟨m, hL⟩ := h.loc
    refine wpAny_storeName_local (m := m) (by rw [Eo.kindOf]; exact h2) (hV.on.ns hL) (fun h' hn hs => ?_) (by rw [Eo.kind]; rfl)
    refine Classical.byContradiction fun hCC => ?_
    refine xa_3_4 (hn) fun o es ep g1 g2 g3 g4 => ?_
    try clear hn
    refine hCC ?_
    clear hCC
    have hV' := hV.upd (a := env.locals) (cl := .ns F fun y => if y = x then some v else m y) hL (F := F) rfl hs.extBut g1 ⟨es, ep, g2, g3, g4⟩ (.inr ⟨_, _, rfl⟩)
    have lO : VLeO (fun _ => True) F V (V.set env.locals (.ns F fun y => if y = x then some v else m y)) := fun a cl e q => by
      rw [View.set_ne]; exact e
      rintro rfl; rw [hL] at e; (refine some_el e fun qq => ?_; subst qq; clear e)
      rcases q with q | ⟨_, _, _, q, _⟩ <;> cases q
    have other : ∀ a cl, V a = some cl → (∀ H m, cl ≠ .ns H m) → (V.set env.locals (.ns F fun y => if y = x then some v else m y)) a = some cl := fun a cl e q => by
      rw [View.set_ne]; exact e
      rintro rfl; rw [hL] at e; (refine some_el e fun qq => ?_; subst qq; clear e); exact q _ _ rfl
    refine hQ _ h' _ ⟨⟨_, _, _, rfl, hL, rfl, (by intro _ _ _ q; cases q), rfl, hs.extBut⟩⟩ hV' ⟨⟨by rw [List.length_set]; exact h.ec.len, fun j y lv' a b d => ?_⟩, ⟨_, View.set_self ..⟩, fun j y a b => ?_, h.nd, h.lt⟩
    · by_cases hj : j = i
      · subst hj
        rw [h1] at a; cases a
        rw [List.getElem?_set_self hi] at b; (refine some_el b fun qq => ?_; subst qq; clear b)
        exact ⟨v, .inl ⟨by rw [Eo.kindOf]; exact h2, F, _, View.set_self .., by simp⟩, RV.keep lO (h.idx h1) trivial hr⟩
      · rw [List.getElem?_set_ne (Ne.symm hj)] at b
        have hy : y ≠ x := by rintro rfl; exact hj (h.nd _ _ _ a h1)
        refine xa_1_2 (h.ec.at_ j y lv' a b d) fun u r1 r2 => ?_
        refine ⟨u, ?_, RV.keep lO (h.idx a) trivial r2⟩
        rcases r1 with ⟨q1, H, m', q2, q3⟩ | ⟨q1, a', q2, q3⟩
        · rw [hL] at q2; cases q2
          exact .inl ⟨q1, F, _, View.set_self .., by simpa [hy] using q3⟩
        · exact .inr ⟨q1, a', q2, other _ _ q3 (by intro _ _ q; cases q)⟩
    · obtain ⟨d, u, e1, e2⟩ := h.cel j y a b
      exact ⟨d, u, e1, other _ _ e2 (by intro _ _ q; cases q)⟩
  · have h2 := eq_of_beq h2
    refine Classical.byContradiction fun hCC => ?_
    refine xa_2_2 (h.cel i x h1 h2) fun a v₀ e1 e2 => ?_
    refine hCC ?_
    clear hCC
    refine wpAny_storeName_cell Eo.kind (by rw [Eo.kindOf]; exact h2) e1 (hV.on.cl e2) fun h' hc hs => ?_
    refine xa_1_2 (hc) fun o g1 g2 => ?_
    try clear hc
    have hV' := hV.upd (a := a) (cl := .cl F i (some v)) e2 (F := F) rfl hs.extBut g1 g2 (.inl (by intro _ _ q; cases q))
    have lO : VLeO (fun _ => True) F V (V.set a (.cl F i (some v))) := fun b cl e q => by
      rw [View.set_ne]; exact e
      rintro rfl; rw [e2] at e; (refine some_el e fun qq => ?_; subst qq; clear e)
      rcases q with q | ⟨_, _, _, q, _⟩ <;> cases q
    have other : ∀ b cl, V b = some cl → (∀ u, cl ≠ .cl F i u) → (V.set a (.cl F i (some v))) b = some cl := fun b cl e q => by
      rw [View.set_ne]; exact e
      rintro rfl; rw [e2] at e; (refine some_el e fun qq => ?_; subst qq; clear e); exact q _ rfl
    refine hQ _ h' _ ⟨⟨_, _, _, rfl, e2, rfl, (by intro _ _ _ q; cases q), rfl, hs.extBut⟩⟩ hV' ⟨⟨by rw [List.length_set]; exact h.ec.len, fun j y lv' a' b d => ?_⟩, ?_, fun j y a' b => ?_, h.nd, h.lt⟩
    · by_cases hj : j = i
      · subst hj
        rw [h1] at a'; cases a'
        rw [List.getElem?_set_self hi] at b; (refine some_el b fun qq => ?_; subst qq; clear b)
        exact ⟨v, .inr ⟨by rw [Eo.kindOf]; exact h2, a, e1, View.set_self ..⟩, RV.keep lO (h.idx h1) trivial hr⟩
      · rw [List.getElem?_set_ne (Ne.symm hj)] at b
        refine xa_1_2 (h.ec.at_ j y lv' a' b d) fun u r1 r2 => ?_
        refine ⟨u, ?_, RV.keep lO (h.idx a') trivial r2⟩
        rcases r1 with ⟨q1, H, m', q2, q3⟩ | ⟨q1, b', q2, q3⟩
        · exact .inl ⟨q1, H, m', other _ _ q2 (by intro _ q; cases q), q3⟩
        · exact .inr ⟨q1, b', q2, other _ _ q3 (by intro _ q; cases q; exact hj rfl)⟩
    · obtain ⟨m, hL⟩ := h.loc
      exact ⟨m, other _ _ hL (by intro _ q; cases q)⟩
    · by_cases hj : j = i
      · subst hj
        rw [h1] at a'; cases a'
        exact ⟨a, _, e1, View.set_self ..⟩
      · obtain ⟨d, u, q1, q2⟩ := h.cel j y a' b
        exact ⟨d, u, q1, other _ _ q2 (by intro _ q; cases q; exact hj rfl)⟩
end
end Mine
end
section
open PySem PySem.W PySem.Calls PyProof.Rows PySem.Spec PySem.SeqAt
set_option genInjectivity false
set_option tactic.hygienic false
namespace Mine
section
variable {c : Cfg} {A : Around} {V V' : View} {F : Addr} {n : Nat} {G : Str → Option Value} {ct : Addr → List T → Option T} {env : Env} {kn : KN} {tbl : List (Option Str)} {σ : List LV}
theorem swaps_no {v : Expr} {t : Option Expr} {l : Nat} {env : Env} (h : isCompX v = false) : swapsWith v t l env = pure false := by
  cases v <;> first | rfl | cases h
theorem quiet {env : Env} {kn : KN} (Eo : EOk env kn) : interactive env = false := by
  unfold interactive
  rw [Eo.kind]; rfl
theorem Vw.drop {h h' : Heap} {D : Addr} (H : Vw c V h) (hs : Heap.ExtBut D h h') (hn : V D = none) : Vw c V h' :=
  ⟨fun a cl e => by
    refine xa_1_2 (H.on a cl e) fun o ho hc => ?_
    exact ⟨o, hs a o (by rintro rfl; rw [hn] at e; exact none_el e) ho, hc⟩, H.st, H.nsx⟩
noncomputable def frzG (V : View) (F : Addr) (i : Nat) : View := fun a => match V a with
  | some (.own G k o) => if G = F ∧ k % 1000 = i then some (.frz o) else some (.own G k o)
  | x => x
theorem frzG_own {i k : Nat} {a : Addr} {o : Obj} (h : V a = some (.own F k o)) (hk : k % 1000 = i) : frzG V F i a = some (.frz o) := by
  unfold frzG; rw [h]; exact if_pos ⟨rfl, hk⟩
theorem frzG_other {i : Nat} {a : Addr} {cl : Cell} (h : V a = some cl) (hk : ∀ k o, cl = .own F k o → k % 1000 ≠ i) : frzG V F i a = some cl := by
  unfold frzG; rw [h]
  cases cl with
  | own G k o =>
    refine if_neg ?_
    rintro ⟨rfl, e⟩
    exact hk k o rfl e
  | _ => rfl
set_option tactic.hygienic true in
theorem Vw.frzG {h : Heap} (H : Vw c V h) (F : Addr) (i : Nat) : Vw c (frzG V F i) h := by
  refine ⟨fun a cl e => ?_, fun a o e => frzG_other (H.st a o e) (by intro _ _ q; cases q), ?_⟩
  · unfold Mine.frzG at e
    split at e
    · rename_i G k o q
      refine xa_1_2 (H.on a _ q) fun o' ho hc => ?_
      split at e
      · (refine some_el e fun qq => ?_; subst qq; clear e); exact ⟨o', ho, hc⟩
      · (refine some_el e fun qq => ?_; subst qq; clear e); exact ⟨o', ho, hc⟩
    · exact H.on a cl e
  · obtain ⟨L, G, m, e⟩ := H.nsx
    exact ⟨L, G, m, frzG_other e (by intro _ _ q; cases q)⟩
theorem frzG_S {i : Nat} : VLeS F V (frzG V F i) := fun a cl e t => frzG_other e (by rintro k o rfl; exact absurd rfl t)
theorem frzG_O {i : Nat} : VLeO (· ≠ i) F V (frzG V F i) := fun a cl e t => frzG_other e (by
  rintro k o rfl
  rcases t with t | ⟨G, k', o', q, hp⟩
  · cases t
  · cases q; exact hp)
set_option tactic.hygienic true in
theorem frzG_rv {i : Nat} (hi : i < 1000) {lv : LV} {t : T} (hnv : ∀ k i a, lv ≠ .ownv k i a) (e : frzV lv = some t) {v : Value} (h : RV c V F i lv v) : RV c (frzG V F i) F i (.frz t) v := by
  unfold frzV at e
  have lf := (frzG_O (V := V) (F := F) (i := i)).toF
  have hm := Nat.mod_eq_of_lt hi
  split at e
  · (refine some_el e fun qq => ?_; subst qq; clear e)
    refine Classical.byContradiction fun hCC => ?_
    refine xa_3_3 (h) fun a vs n e h1 h2 => ?_
    try clear h
    refine hCC ?_
    clear hCC
    exact ⟨a, vs, n, e, frzG_own h1 hm, IsL.mono lf _ _ h2⟩
  · (refine some_el e fun qq => ?_; subst qq; clear e)
    refine Classical.byContradiction fun hCC => ?_
    refine xa_3_6 (h) fun a es n e q h1 h2 h3 h4 => ?_
    try clear h
    refine hCC ?_
    clear hCC
    exact ⟨a, es, n, e, frzG_own h1 hm, q, h2, IsL.mono lf _ _ h4⟩
  · rename_i ks ls; (refine some_el e fun qq => ?_; subst qq; clear e)
    refine Classical.byContradiction fun hCC => ?_
    refine xa_3_7 (h) fun a es n e q h1 h2 h3 h5 h4 => ?_
    try clear h
    refine hCC ?_
    clear hCC
    refine ⟨a, es, n, e, frzG_own h1 hm, q, h2, ?_⟩
    have hl : (es.map (·.val)).length = ls.length := by rw [List.length_map, ← h2.length, h5]
    revert h4 hl
    generalize es.map (·.val) = ws
    clear h5 h2 h1 h3
    have key : ∀ (ls : List (List T)) (ws : List Value), (∀ (j : Nat) l, ls[j]? = some l → ∃ b vs m k, ws[j]? = some (.ref b) ∧ k % 1000 = i ∧ V b = some (.own F k (lstO vs m)) ∧ IsL c V l vs) → ws.length = ls.length → IsL c (frzG V F i) (ls.map .list) ws := by
      intro ls
      induction ls with
      | nil => intro ws _ hl; exact List.length_eq_zero_iff.mp hl
      | cons l ls ih =>
        intro ws h4 hl
        cases ws with
        | nil => cases hl
        | cons w ws =>
          refine Classical.byContradiction fun hCC => ?_
          refine xa_4_4 (h4 0 l rfl) fun b vs m k g1 gk g2 g3 => ?_
          refine hCC ?_
          clear hCC
          (refine some_el g1 fun qq => ?_; subst qq; clear g1)
          exact ⟨_, ws, rfl, ⟨b, vs, m, rfl, frzG_own g2 gk, IsL.mono lf _ _ g3⟩, ih ws (fun j l hj => h4 (j + 1) l hj) (by simpa using hl)⟩
    intro h4 hl
    exact key ls ws (fun j l hj => by
      refine Classical.byContradiction fun hCC => ?_
      refine xa_3_3 (h4 j l hj) fun b vs m g1 g2 g3 => ?_
      refine hCC ?_
      clear hCC
      exact ⟨b, vs, m, _, g1, by rw [Nat.add_mul_mod_self_left, hm], g2, g3⟩) hl
  · exact absurd rfl (hnv _ _ _)
  · exact none_el e
theorem name_fun {i : Nat} {x : Str} {v w : Value} (h : NameAt V F env i x v) (h' : NameAt V F env i x w) : v = w := by
  rcases h with ⟨a, G, m, b, d⟩ | ⟨a, q, b, d⟩ <;> rcases h' with ⟨a', G', m', b', d'⟩ | ⟨a', q', b', d'⟩
  · rw [b] at b'; cases b'; rw [d] at d'; (refine some_el d' fun qq => ?_; subst qq; clear d'); rfl
  · rw [a] at a'; cases a'
  · rw [a] at a'; cases a'
  · rw [b] at b'; (refine some_el b' fun qq => ?_; subst qq; clear b'); rw [d] at d'; cases d'; rfl
theorem frz_sc {i : Nat} {lv : LV} {t : T} (h : SC c V F env kn tbl σ) (hs : σ[i]? = some lv) (e : frzV lv = some t) :
    ∃ V', VLeS F V V' ∧ (∀ h, Vw c V h → Vw c V' h) ∧ SC c V' F env kn tbl (σ.set i (.frz t)) := by
  by_cases hv : ∃ k j a, lv = .ownv k j a
  · obtain ⟨k, j, a, rfl⟩ := hv
    (refine some_el e fun qq => ?_; subst qq; clear e)
    cases ht : tbl[i]? with
    | none =>
      have := (List.getElem?_eq_some_iff.mp hs).1
      rw [h.ec.len] at this
      exact absurd this (by simpa using ht)
    | some o =>
      cases o with
      | none => exact ⟨V, VLeS.refl F V, fun _ hV => hV, h.own (h.idx' hs) (fun a cl q _ => q) (fun a cl q _ => q) (fun x v hx => by rw [ht] at hx; cases hx) hs (by intro h; cases h)⟩
      | some x =>
        obtain ⟨v, r1, y, dx, kv, iv, tv, es, n, rfl, h1, h2, h3, h4, h5, h6⟩ := h.ec.at_ i x _ ht hs (by intro h; cases h)
        have lf : VLeF V (V.set dx (.vec kv iv tv)) := VLeF.set h2 rfl
        have hyd : y ≠ dx := by rintro rfl; rw [h1] at h2; cases h2
        refine ⟨V.set dx (.vec kv iv tv), VLeS.set h2 rfl, fun hp hV => hV.retag h2 (F := F) rfl (fun o ho => by rw [show o = _ from ho]; exact h3) (.inl (by intro _ _ q; cases q)), h.own (h.idx' hs) (fun b cl q w => ?_) (fun b cl q w => ?_) (fun x' v hx' hn _ => ?_) hs (by intro h; cases h)⟩
        · rw [View.set_ne]; exact q
          rintro rfl; rw [h2] at q; (refine some_el q fun qq => ?_; subst qq; clear q)
          rcases w with w | ⟨_, _, _, w, hp⟩
          · cases w
          · cases w; exact hp (Nat.mod_eq_of_lt (h.idx' hs))
        · rw [View.set_ne]; exact q
          rintro rfl; rw [h2] at q; (refine some_el q fun qq => ?_; subst qq; clear q); exact w _ _ _ rfl
        · rw [ht] at hx'; cases hx'
          rw [name_fun hn r1]
          exact ⟨y, dx, kv, iv, tv, rfl, by rw [View.set_ne _ _ hyd]; exact h1, View.set_self .., Is.mono lf _ _ h4, Is.mono lf _ _ h5, Is.mono lf _ _ h6⟩
  · exact ⟨frzG V F i, frzG_S, fun _ hV => hV.frzG F i, h.own (h.idx' hs) frzG_O (fun a cl q hn => frzG_other q (by rintro k o rfl; exact absurd rfl (hn _ _ _))) (fun _ v _ _ hx => frzG_rv (h.idx' hs) (fun k j a q => hv ⟨k, j, a, q⟩) e hx) hs (by rintro rfl; exact none_el e)⟩
theorem comp_used (hA : AOk n A) {elt iter : Expr} {x : Str} {px : Pos} {ifs : List Expr} {scope : Scope} {pos : Pos} {env : Env} {kn : KN} {items rs : List T} {src : T} {test : T → Option Bool} {f : T → Option T} {u : Value → Sem Unit}
    (Eo : EOk env kn) (hok : compOk kn scope x = true)
    (hs : ∀ z env, foldedSetIterable iter env z = pure z)
    (hi : GivesR c A V (eval iter env) fun V' v => IsR c V' src v) (hit : iterT src = some items) (run : compRun test f items = some rs)
    (ht : ∀ C cl V1 t v b m, test t = some b → VLe V V1 → V1 C = some (.ns C m) → m x = some v → Is c V1 t v → (∀ y a, scope.names.lookup y = some .free → env.cells.lookup y = some a → cl.lookup y = some a) → GivesR c A V1 (ifsT ifs (compEnvC scope cl C env)) fun _ ok => ok = b)
    (he : ∀ C cl V1 t v r m, f t = some r → VLe V V1 → V1 C = some (.ns C m) → m x = some v → Is c V1 t v → (∀ y a, scope.names.lookup y = some .free → env.cells.lookup y = some a → cl.lookup y = some a) → Gives c A V1 (eval elt (compEnvC scope cl C env)) r)
    {s : Shared} {E : Value → Shared → Prop} {Q : Unit → Shared → Prop} (hV : Vw c V s.heap)
    (hQ : ∀ D C vs k V' h' tk m, VLe V V' → Vw c V' h' → V' D = none → V' C = none → h'.get? D = some (lstO vs k) → h'.Ns C m → D ≠ C → IsL c V' rs vs → (D == sysModules) = false →
      wpAny c.M A (u (.ref D)) (fun _ s'' => ∃ m, s''.heap.Ns C m ∧ ∀ h'', Heap.SameBut C s''.heap h'' → Q () { s'' with heap := h'' }) E { s with heap := h', toks := tk }) :
    wpAny c.M A (evalThenUse (.ListComp elt [⟨.Name x px, iter, ifs, 0⟩] scope pos) env u) Q E s := by
  simp only [compOk, Bool.and_eq_true, List.all_eq_true, bne_iff_ne, ne_eq, Bool.or_eq_true, beq_iff_eq] at hok
  refine Classical.byContradiction fun hCC => ?_
  refine ya_7 (hok) fun k1 k2 k3 k4 k5 k6 k7 => ?_
  try clear hok
  refine hCC ?_
  clear hCC
  have hcell : ∀ y ∈ scope.names, y.2 ≠ .cell := fun y hy => k3 y hy
  have hnames : ∀ y ∈ scope.names, y.2 = .local → scope.names.lookup y.1 = some .local := fun y hy h => by
    rcases k4 y hy with h' | h'
    · exact absurd h h'
    · exact h'
  have hfree : ∀ y ∈ scope.names, y.2 = .free → (env.cells.lookup y.1).isSome = true := fun y hy h => by
    rcases k5 y hy with h' | h'
    · exact absurd h h'
    · exact Eo.cells _ h'
  refine xa_1_2 (closure_of hfree) fun cl hclos hcl => ?_
  show wpAny c.M A (comprehension (.ListComp elt [⟨.Name x px, iter, ifs, 0⟩] scope pos) scope env (firstIterPos [⟨.Name x px, iter, ifs, 0⟩] pos) (newList []) false (eval iter env) (some u) >>= fun _ => pure ()) Q E s
  refine wpAny_bind ?_
  refine wpAny_comprehension_free (use := some u) rfl (fun z => hs z env) hclos k1 hnames (hi s E _ hV fun v V1 h1 tk1 l1 hV1 r1 => ?_)
  refine iter_gives hA r1.n hit hV1 fun I fp P St h2 tk2 W hst hV2 hlen => ?_
  refine comp_block (RR := fun acc C => compPost c.M A E (some u) (fun _ s => wpAny c.M A (pure ()) Q E s) acc C) hA run hV2 W hst hlen hcell k1 k2 (fun C V1' t v b m q1 q2 q3 q4 q5 => ht C cl V1' t v b m q1 (l1.trans q2) q3 q4 q5 hcl) (fun C V1' t v r m q1 q2 q3 q4 q5 => he C cl V1' t v r m q1 (l1.trans q2) q3 q4 q5 hcl) ?_
  intro D C h' tk V3 vs k m l3 hV3 v3D v3C vD vC hDC his hDs
  have vD0 : V D = none := by
    cases q : V D with
    | none => rfl
    | some cl' => rw [l1 _ _ q] at vD; cases vD
  have vC0 : V C = none := by
    cases q : V C with
    | none => rfl
    | some cl' => rw [l1 _ _ q] at vC; cases vC
  have hVf : On (fun b => if b = D ∨ b = C then none else V3 b) h' := fun a cl' q => by
    replace q : (if a = D ∨ a = C then none else V3 a) = some cl' := q
    by_cases ha : a = D ∨ a = C
    · rw [if_pos ha] at q; exact none_el q
    · rw [if_neg ha] at q
      exact hV3.on a cl' q
  have lf : VLe V (fun b => if b = D ∨ b = C then none else V3 b) := fun a cl' q => by
    have ha : ¬ (a = D ∨ a = C) := by
      rintro (rfl | rfl)
      · rw [vD0] at q; exact none_el q
      · rw [vC0] at q; exact none_el q
    show (if a = D ∨ a = C then none else V3 a) = _
    rw [if_neg ha]; exact l3 _ _ (l1 _ _ q)
  refine wpAny_mono (hQ D C vs k (fun b => if b = D ∨ b = C then none else V3 b) h' tk m lf ⟨hVf, fun a o q => lf a _ (hV.st a o q), by obtain ⟨L, G, m', q⟩ := hV.nsx; exact ⟨L, G, m', lf _ _ q⟩⟩ (by simp) (by simp) (hV3.on.own v3D) (hV3.on.ns v3C) hDC (his.mono fun a cl' q t => ?_) hDs) (fun _ s'' hh => ?_) fun _ _ y => y
  · have ha : ¬ (a = D ∨ a = C) := by
      rintro (rfl | rfl)
      · rw [v3D] at q; (refine some_el q fun qq => ?_; subst qq; clear q); cases t
      · rw [v3C] at q; (refine some_el q fun qq => ?_; subst qq; clear q); cases t
    show (if a = D ∨ a = C then none else V3 a) = _
    rw [if_neg ha]; exact q
  · obtain ⟨m', q1, q2⟩ := hh
    exact ⟨m', q1, fun h'' hs'' => wpAny_pure (q2 h'' hs'')⟩
noncomputable def OutOk (c : Cfg) (V : View) (F : Addr) (env : Env) (kn : KN) (tbl : List (Option Str)) : Out → Flow → Prop
  | .nxt σ, f => f = .next ∧ SC c V F env kn tbl σ
  | .ret t, f => ∃ v, f = .ret v ∧ Is c V t v
  | .retO l, f => ∃ a vs k j, f = .ret (.ref a) ∧ V a = some (.own F j (lstO vs k)) ∧ IsL c V l vs
noncomputable def GivesS (c : Cfg) (A : Around) (V : View) (F : Addr) (env : Env) (kn : KN) (tbl : List (Option Str)) (t : Sem Flow) (o : Out) : Prop :=
  ∀ (s : Shared) (E : Value → Shared → Prop) (Q : Flow → Shared → Prop), Vw c V s.heap →
    (∀ f V' h' tk, VLeS F V V' → Vw c V' h' → OutOk c V' F env kn tbl o f → Q f { s with heap := h', toks := tk }) → wpAny c.M A t Q E s
end
end Mine
end
section
open PySem PySem.W PySem.Calls PyProof.Rows PySem.Spec PySem.SeqAt
set_option genInjectivity false
set_option tactic.hygienic false
namespace Mine
section
variable {c : Cfg} {A : Around} {V V' : View} {F : Addr} {n : Nat} {G : Str → Option Value} {ct : Addr → List T → Option T} {env : Env} {kn : KN} {tbl : List (Option Str)} {σ : List LV}
theorem own_step {i k : Nat} {lv₀ lv : LV} {x : Str} {v : Value} {a : Addr} {o₀ o : Obj} {h h' : Heap} (sc : SC c V F env kn tbl σ) (hV : Vw c V h) (hs : σ[i]? = some lv₀) (hu : lv₀ ≠ .undef) (hx : tbl[i]? = some (some x)) (hn : NameAt V F env i x v)
    (ha : V a = some (.own F k o₀)) (hk : k % 1000 = i) (he : Heap.ExtBut a h h') (hg : h'.get? a = some o) (hr : RV c (V.set a (.own F k o)) F i lv v) :
    VLeS F V (V.set a (.own F k o)) ∧ Vw c (V.set a (.own F k o)) h' ∧ SC c (V.set a (.own F k o)) F env kn tbl (σ.set i lv) := by
  refine ⟨VLeS.set ha rfl, hV.upd ha rfl he hg rfl (.inl (by intro _ _ q; cases q)), sc.own (sc.idx hx) (fun b cl e q => ?_) (fun b cl e q => ?_) (fun y w hy hw _ => ?_) hs hu⟩
  · rw [View.set_ne]; exact e
    rintro rfl; rw [ha] at e; (refine some_el e fun qq => ?_; subst qq; clear e)
    rcases q with q | ⟨_, _, _, q, hp⟩
    · cases q
    · cases q; exact hp hk
  · rw [View.set_ne]; exact e
    rintro rfl; rw [ha] at e; (refine some_el e fun qq => ?_; subst qq; clear e); exact q _ _ _ rfl
  · rw [hx] at hy; cases hy
    rw [name_fun hw hn]; exact hr
theorem list_step {i : Nat} {l l' : List T} {x : Str} {a : Addr} {vs vs' : List Value} {k k' : Nat} {h h' : Heap} (sc : SC c V F env kn tbl σ) (hV : Vw c V h) (hs : σ[i]? = some (.own l)) (hx : tbl[i]? = some (some x)) (hn : NameAt V F env i x (.ref a))
    (ha : V a = some (.own F i (lstO vs k))) (he : Heap.ExtBut a h h') (hg : h'.get? a = some (lstO vs' k')) (hr : IsL c V l' vs') :
    ∃ V', VLeS F V V' ∧ Vw c V' h' ∧ SC c V' F env kn tbl (σ.set i (.own l')) := by
  refine ⟨_, own_step sc hV hs (by intro h; cases h) hx hn ha (Nat.mod_eq_of_lt (sc.idx hx)) he hg ⟨a, vs', k', rfl, View.set_self .., hr.mono (VLeF.set ha rfl)⟩⟩
theorem callWith_raw {f : Value} {first : List Value} {as : List Expr} {env : Env} {pos : Pos} {R : View → List Value → Prop} {s : Shared} {E Q : Value → Shared → Prop}
    (hne : as.isEmpty = false) (hst : ∀ a ∈ as, ∀ e p, a ≠ .Starred e p)
    (hk : ∀ h, Vw c V h → ∃ k, (k = Keeper.frame ∨ k = Keeper.machine ∨ k = Keeper.boundFrame) ∧ Looks c.M h (keeperOf f) k)
    (ha : GivesR c A V (spliced (backTo pos (starEach as env))) R) (hV : Vw c V s.heap)
    (hc : ∀ V' vs h' tk, VLe V V' → Vw c V' h' → R V' vs → wpAny c.M A (call f (first ++ vs)) Q E { s with heap := h', toks := tk }) :
    wpAny c.M A (callWith pos f first (backTo pos (starEach as env)) []) Q E s := by
  cases as with
  | nil => cases hne
  | cons a as =>
    have star : ∀ l : List Expr, (∀ a ∈ l, ∀ e p, a ≠ .Starred e p) → (backTo pos (starEach l env)).any (·.1) = false := by
      intro l
      induction l with
      | nil => intro _; rfl
      | cons b l ih =>
        intro h
        rw [star_cons (h b (.head _))]
        show (false || (backTo pos (starEach l env)).any (·.1)) = false
        rw [ih fun a ha => h a (.tail _ ha)]; rfl
    have e1 : starEach (a :: as) env = (false, eval a env) :: starEach as env := star_cons (hst a (.head _))
    refine callWith_of (P := fun h => Vw c V h) (by rw [star _ hst]; rfl) hk ?_
    rw [e1]
    refine evalArgs_plain ?_
    have := ha s E (fun vs s₁ => Vw c V s₁.heap ∧ wpAny c.M A (call f (first ++ vs) []) Q E s₁) hV fun vs V1 h1 tk1 l1 hV1 r1 => ⟨⟨hV1.on.sub l1, hV.st, hV.nsx⟩, hc V1 vs h1 tk1 l1 hV1 r1⟩
    rw [e1] at this
    exact this
theorem own_call {y nm : Str} {q ap p p' : Pos} {as : List Expr} {i : Nat} {l : List T} {id : String} {R : View → List Value → Prop} {s : Shared} {E : Value → Shared → Prop} {Q : Flow → Shared → Prop} (Eo : EOk env kn) (sc : SC c V F env kn tbl σ)
    (hv : vOk kn tbl i y = true) (hs : σ[i]? = some (.own l)) (slot : Slot "list" nm id) (ty : typeOf (.builtin id) = pure (.type "method_descriptor")) (hfew : as.length < 20) (hst : ∀ a ∈ as, ∀ e p, a ≠ .Starred e p) (hline : (ap.endLine == p.line) = true)
    (ha : ∀ V', VLe V V' → GivesR c A V' (spliced (backTo p (starEach as env))) R) (hV : Vw c V s.heap) (h0 : as = [] → ∀ V', R V' [])
    (hc : ∀ a vs k V' us h' tk, VLe V V' → Vw c V' h' → NameAt V' F env i y (.ref a) → V' a = some (.own F i (lstO vs k)) → IsL c V' l vs → R V' us → wpAny c.M A (call (.builtin id) (.ref a :: us)) (fun _ => Q .next) E { s with heap := h', toks := tk }) :
    wpAny c.M A (exec (.Expr (.Call (.Attribute (.Name y q) nm ap) as [] p) p') env) Q E s := by
  simp only [vOk, Bool.and_eq_true] at hv
  refine ya_3 (hv) fun h1 h2 h3 => ?_
  try clear hv
  have h1 : tbl[i]? = some (some y) := eq_of_beq h1
  obtain ⟨v, r1, a, vs, k, rfl, r2, r3⟩ := sc.ec.at_ i y _ h1 hs (by intro h; cases h)
  refine wpAny_Expr_any ?_ (quiet Eo) rfl
  refine wpAny_Call_method_lateS rfl ?_ hline (name_gives (R := fun V' w => VLe V V' ∧ w = .ref a) Eo r1 (ne_of_bne h3) q ⟨VLe.refl V, rfl⟩ s E _ hV fun w V1 hp1 tk1 l1 hV1 r => ?_)
  · rw [star_all hst]
    show (true && true && decide (as.length + 0 + 0 < 30)) = true
    simp; omega
  · obtain ⟨_, rfl⟩ := r
    refine ⟨"list", id, PySem.F.plainAttrs_list, slot, ty, ⟨_, hV1.on.own (l1 _ _ r2), rfl⟩, fun b e => by cases e; exact ⟨_, hV1.on.own (l1 _ _ r2), rfl⟩, ?_⟩
    cases as with
    | nil =>
      exact callWith_method0 (hc a vs k V1 [] hp1 tk1 l1 hV1 (r1.mono l1) (l1 _ _ r2) (IsL.mono l1.toF _ _ r3) (h0 rfl V1))
    | cons x as =>
      refine callWith_raw (first := [Value.ref a]) rfl hst (fun h hV => ⟨_, .inr (.inl rfl), keeper_builtin (by intro a h; cases h)⟩) (ha V1 l1) hV1 fun V2 us hp2 tk2 l2 hV2 r4 => ?_
      have l12 := l1.trans l2
      exact hc a vs k V2 us hp2 tk2 l12 hV2 (r1.mono l12) (l12 _ _ r2) (IsL.mono l12.toF _ _ r3) r4
theorem dictOf_at {h : Heap} {a : Addr} {es : List DictEntry} {k : Nat} {ks : List Str} (hv : h.get? a = some (dictOf es k)) (hk : KeysAre c.w es ks) (hn : ks.Nodup) : h.DictOf (PySem.strKind c.prog c.w) a (ks.zip (es.map (·.val))) := by
  refine ⟨_, es.toArray, k, hv, ⟨rfl, rfl, rfl⟩, rfl, fun e he => ?_, ?_, ?_⟩
  · obtain ⟨x, t, e1, e2⟩ := hk.all e (by simpa using he)
    exact ⟨x, by rw [e1]; exact strKind_is c.prog c.w x t, e2⟩
  · have : ∀ (es : List DictEntry) (ks : List Str), KeysAre c.w es ks → Pairs (PySem.strKind c.prog c.w) es (ks.zip (es.map (·.val))) := by
      intro es
      induction es with
      | nil => intro ks hk; rw [show ks = [] from hk]; exact .nil
      | cons e es ih =>
        rintro ks ⟨k, ks', rfl, ⟨t, h1⟩, _, h3⟩
        exact .cons (by rw [h1]; exact strKind_is c.prog c.w k t) rfl (ih _ h3)
    exact this es ks hk
  · rw [List.map_fst_zip (by rw [List.length_map, hk.length]; exact Nat.le_refl _)]; exact hn
theorem dputAt_length {α : Type} : ∀ (ks : List Str) (ts : List α) (x : Str) (u : α), (dputAt ks ts x u).length = ts.length
  | [], _, _, _ => rfl
  | _ :: _, [], _, _ => rfl
  | k :: ks, t :: ts, x, u => by
    unfold dputAt
    split
    · rfl
    · rw [List.length_cons, List.length_cons, dputAt_length]
theorem dputAt_is : ∀ (ks : List Str) {ts : List T} {vs : List Value} (x : Str) {t : T} {v : Value}, IsL c V ts vs → Is c V t v → IsL c V (dputAt ks ts x t) (dputAt ks vs x v)
  | [], _, _, _, _, _, h, _ => h
  | _ :: _, [], _, _, _, _, h, _ => by rw [show _ = [] from h]; rfl
  | k :: ks, t :: ts, _, x, u, w, ⟨v, vs, rfl, h1, h2⟩, h => by
    unfold dputAt
    split
    · exact ⟨w, vs, rfl, h, h2⟩
    · exact ⟨v, _, rfl, h1, dputAt_is ks x h2 h⟩
theorem stored_zip (k : Str) (v : Value) : ∀ {ks : List Str} {ws : List Value}, ks.Nodup → ks.length = ws.length → stored (ks.zip ws) k v = if ks.contains k then ks.zip (dputAt ks ws k v) else (ks ++ [k]).zip (ws ++ [v]) := by
  intro ks ws hn hl
  have hm : (ks.zip ws).any (fun kv => decide (kv.1 = k)) = ks.contains k := by
    clear hn
    induction ks generalizing ws with
    | nil => rfl
    | cons x ks ih =>
      cases ws with
      | nil => cases hl
      | cons w ws =>
        rw [List.zip_cons_cons, List.any_cons, List.contains_cons, ih (by simpa using hl)]
        congr 1
        by_cases h : x = k
        · subst h; simp
        · have h' : ¬ k = x := fun e => h e.symm
          simp [h, h']
  unfold stored
  rw [hm]
  split
  · rename_i hc
    clear hm
    induction ks generalizing ws with
    | nil => exact ff_el hc
    | cons x ks ih =>
      cases ws with
      | nil => cases hl
      | cons w ws =>
        rw [List.nodup_cons] at hn
        rw [List.zip_cons_cons, List.map_cons]
        unfold dputAt
        by_cases h : x = k
        · subst h
          simp only [if_true]
          rw [List.zip_cons_cons, map_store_of_not_mem _ _ _ (by
            rw [List.map_fst_zip (by simpa using Nat.le_of_eq (by simpa using hl))]; exact hn.1)]
        · simp only [h, if_false]
          have h' : ¬ k = x := fun e => h e.symm
          rw [List.zip_cons_cons, ih hn.2 (by simpa using hl) (by
            rw [List.contains_cons] at hc
            simpa [h'] using hc)]
  · rw [List.zip_append hl]; rfl
theorem nodup_snoc {ks : List Str} {x : Str} (h : ks.Nodup) (hx : ks.contains x = false) : (ks ++ [x]).Nodup := by
  rw [List.nodup_append]
  refine ⟨h, by simp, fun a ha b hb => ?_⟩
  simp only [List.mem_singleton] at hb
  subst hb
  rintro rfl
  have := List.contains_iff_mem.mpr ha
  rw [hx] at this; exact ff_el this
theorem put_step {i : Nat} {ks : List Str} {l : List T} {lv : LV} {x : Str} {a : Addr} {es : List DictEntry} {k : Nat} {h h' : Heap} {key : Str} {t : T} {v : Value} (sc : SC c V F env kn tbl σ) (hV : Vw c V h) (hs : σ[i]? = some (.ownd ks l)) (hx : tbl[i]? = some (some x))
    (hn : NameAt V F env i x (.ref a)) (ha : V a = some (.own F i (dictOf es k))) (hsm : (a == sysModules) = false) (hk : KeysAre c.w es ks) (hd : ks.Nodup) (hl : IsL c V l (es.map (·.val))) (ht : Is c V t v)
    (he : Heap.SameBut a h h') (hg : h'.DictOf (PySem.strKind c.prog c.w) a (stored (ks.zip (es.map (·.val))) key v)) (hp : putV (.ownd ks l) (.str key) t = some lv) :
    ∃ V', VLeS F V V' ∧ Vw c V' h' ∧ SC c V' F env kn tbl (σ.set i lv) := by
  have hlen : ks.length = (es.map (·.val)).length := by rw [List.length_map, hk.length]
  rw [stored_zip key v hd hlen] at hg
  replace hp : (if ks.length < 1000 then (if ks.contains key then some (LV.ownd ks (dputAt ks l key t)) else some (.ownd (ks ++ [key]) (l ++ [t]))) else none) = some lv := hp
  split at hp
  · split at hp
    · rename_i hc; (refine some_el hp fun qq => ?_; subst qq; clear hp)
      rw [if_pos hc] at hg
      obtain ⟨es', n', g1, g2, g3⟩ := dictOf_shape (by rw [dputAt_length]; exact hlen) hg
      have lf : VLeF V (V.set a (.own F i (dictOf es' n'))) := VLeF.set ha rfl
      exact ⟨_, own_step sc hV hs (by intro h; cases h) hx hn ha (Nat.mod_eq_of_lt (sc.idx hx)) he.extBut g1 ⟨a, es', n', rfl, hsm, View.set_self .., g2, hd, by rw [g3]; exact (dputAt_is ks key hl ht).mono lf⟩⟩
    · rename_i hc; (refine some_el hp fun qq => ?_; subst qq; clear hp)
      have hc' : ks.contains key = false := by simpa using hc
      rw [if_neg hc] at hg
      obtain ⟨es', n', g1, g2, g3⟩ := dictOf_shape (by rw [List.length_append, List.length_append, hlen]; rfl) hg
      have lf : VLeF V (V.set a (.own F i (dictOf es' n'))) := VLeF.set ha rfl
      exact ⟨_, own_step sc hV hs (by intro h; cases h) hx hn ha (Nat.mod_eq_of_lt (sc.idx hx)) he.extBut g1 ⟨a, es', n', rfl, hsm, View.set_self .., g2, nodup_snoc hd hc', by rw [g3]; exact (hl.append (.one ht)).mono lf⟩⟩
  · exact none_el hp
end
end Mine
end
section
open PySem PySem.W PySem.Calls PyProof.Rows PySem.Spec PySem.SeqAt
set_option genInjectivity false
set_option tactic.hygienic false
namespace Mine
section
variable {c : Cfg} {A : Around} {V V' : View} {F : Addr} {n : Nat} {G : Str → Option Value} {ct : Addr → List T → Option T} {env : Env} {kn : KN} {tbl : List (Option Str)} {σ : List LV}
theorem GivesS.next {s : Shared} {Q : Flow → Shared → Prop} (hV : Vw c V s.heap) (sc : SC c V F env kn tbl σ)
    (hQ : ∀ f V' h' tk, VLeS F V V' → Vw c V' h' → OutOk c V' F env kn tbl (.nxt σ) f → Q f { s with heap := h', toks := tk }) : Q .next s :=
  hQ .next V s.heap s.toks (VLeS.refl F V) hV ⟨rfl, sc⟩
theorem asg_ok (Eo : EOk env kn) (sc : SC c V F env kn tbl σ) {i : Nat} {y : Str} {q p : Pos} {v : Expr} {t : T} (hv : vOk kn tbl i y = true) (hc : isCompX v = false) (hg : Gives c A V (eval v env) t) :
    GivesS c A V F env kn tbl (exec (.Assign [.Name y q] v p) env) (.nxt (σ.set i (.frz t))) := fun s E Q hV hQ =>
  wpAny_Assign_Name (hg s E _ hV fun w V1 h1 tk1 l1 hV1 r1 => store_gives Eo (sc.mono l1) (lv := .frz t) hv r1 hV1 fun V2 h2 tk2 st hV2 sc2 => hQ .next V2 h2 tk2 (l1.toS.trans st.leS) hV2 ⟨rfl, sc2⟩) (swaps_no hc)
theorem own_new {i : Nat} {rs : List T} {vs : List Value} {k : Nat} {a : Addr} {h : Heap} (hV : Vw c V h) (hn : V a = none) (hg : h.get? a = some (lstO vs k)) (hi : IsL c V rs vs) :
    VLe V (V.set a (.own F i (lstO vs k))) ∧ Vw c (V.set a (.own F i (lstO vs k))) h ∧ RV c (V.set a (.own F i (lstO vs k))) F i (.own rs) (.ref a) :=
  ⟨VLe.set hn, hV.add hn hg rfl, a, vs, k, rfl, View.set_self .., hi.mono (VLe.set hn).toF⟩
theorem asgL_ok (Eo : EOk env kn) (sc : SC c V F env kn tbl σ) {i : Nat} {y : Str} {q p : Pos} {v : Expr} {rs : List T} (hv : vOk kn tbl i y = true) (hc : isCompX v = false) (hg : GivesL c A V (eval v env) rs) :
    GivesS c A V F env kn tbl (exec (.Assign [.Name y q] v p) env) (.nxt (σ.set i (.own rs))) := fun s E Q hV hQ =>
  wpAny_Assign_Name (hg s E _ hV fun a vs k V1 h1 tk1 l1 hV1 hn hg hi => by
    refine xa_0_3 (own_new (F := F) (i := i) hV1 hn hg hi) fun l2 hV2 r2 => ?_
    exact store_gives Eo (sc.mono (l1.trans l2)) hv r2 hV2 fun V3 h3 tk3 st hV3 sc3 => hQ .next V3 h3 tk3 ((l1.trans l2).toS.trans st.leS) hV3 ⟨rfl, sc3⟩) (swaps_no hc)
set_option tactic.hygienic true in
theorem names_ok {elts : List Expr} {is : List Nat} (hx : x_names kn tbl is elts = true) : (assignEach elts env).length = is.length ∧ (assignEach elts env).findIdx? (·.1) = none := by
  induction is generalizing elts with
  | nil =>
    have : elts = [] := List.isEmpty_iff.mp hx
    subst this; exact ⟨rfl, rfl⟩
  | cons i is ih =>
    refine cns_el hx fun v l q hx => vName_el hx fun y p q2 hx => ?_
    · subst q; subst q2
      obtain ⟨_, h2⟩ := Bool.and_eq_true_iff.mp hx
      obtain ⟨a, b⟩ := ih h2
      refine ⟨by show _ + 1 = _ + 1; rw [a], ?_⟩
      show List.findIdx? (·.1) ((false, _) :: assignEach l env) = none
      rw [List.findIdx?_cons, b]; rfl
set_option tactic.hygienic true in
theorem inOrder_ok (Eo : EOk env kn) : ∀ (is : List Nat) (elts : List Expr) (ts : List T) (vs : List Value) (σ σ' : List LV) (V : View), x_names kn tbl is elts = true → setAll σ is ts = some σ' → SC c V F env kn tbl σ → IsL c V ts vs →
    ∀ (s : Shared) (E : Value → Shared → Prop) (Q : Unit → Shared → Prop), Vw c V s.heap → (∀ V' h' tk, VLeS F V V' → Vw c V' h' → SC c V' F env kn tbl σ' → Q () { s with heap := h', toks := tk }) →
    wpAny c.M A (assignInOrder ((assignEach elts env).map (·.2)) vs) Q E s
  | [], elts, ts, vs, σ, σ', V, hx, hs, sc, hi, s, E, Q, hV, hQ => by
    have : elts = [] := List.isEmpty_iff.mp hx
    subst this
    cases ts with
    | nil =>
      (refine some_el hs fun qq => ?_; subst qq; clear hs)
      rw [show vs = [] from hi]
      exact wpAny_pure (hQ V s.heap s.toks (VLeS.refl F V) hV sc)
    | cons t ts => exact none_el hs
  | i :: is, elts, ts, vs, σ, σ', V, hx, hs, sc, hi, s, E, Q, hV, hQ => by
    cases ts with
    | nil => exact none_el hs
    | cons t ts =>
      refine cns_el hx fun v l q hx => vName_el hx fun y p q2 hx => ?_
      · subst q; subst q2
        refine Classical.byContradiction fun hCC => ?_
        obtain ⟨h1, h2⟩ := Bool.and_eq_true_iff.mp hx
        refine xa_2_3 (hi) fun v vs' rq0 h3 h4 => ?_
        try clear hi
        subst rq0
        refine hCC ?_
        clear hCC
        show wpAny c.M A (holding vs' (assign (.Name y p) env v) >>= fun _ => assignInOrder ((assignEach l env).map (·.2)) vs') Q E s
        refine wpAny_bind (wpAny_holding <| wpAny_assign_Name (store_gives Eo sc (lv := .frz t) h1 h3 hV fun V1 hp1 tk1 st hV1 sc1 => ?_))
        exact inOrder_ok Eo is l ts vs' _ σ' V1 h2 hs sc1 (h4.mono st.leS.toF) _ E Q hV1 fun V2 h2 tk2 l2 hV2 sc2 => hQ V2 h2 tk2 (st.leS.trans l2) hV2 sc2
theorem tuple_ok (hA : AOk n A) (Eo : EOk env kn) {is : List Nat} {elts : List Expr} {k : Nat} {p : Pos} {ts : List T} {v : Value} {σ' : List LV} (hx : x_names kn tbl is elts = true) (hs : setAll σ is ts = some σ') (hl : ts.length = is.length) (sc : SC c V F env kn tbl σ) (hi : Is c V (.tup ts) v)
    {s : Shared} {E : Value → Shared → Prop} {Q : Unit → Shared → Prop} (hV : Vw c V s.heap) (hQ : ∀ V' h' tk, VLeS F V V' → Vw c V' h' → SC c V' F env kn tbl σ' → Q () { s with heap := h', toks := tk }) :
    wpAny c.M A (assign (.Tuple elts k p) env v) Q E s := by
  refine Classical.byContradiction fun hCC => ?_
  refine xa_3_3 (hi) fun a vs j rq0 hv h1 => ?_
  try clear hi
  subst rq0
  obtain ⟨n1, n2⟩ := names_ok (env := env) hx
  refine hCC ?_
  clear hCC
  refine assign_Tuple_tuple hA.h (isTup_of (hV.on.frz hv)) (by rw [n1, List.size_toArray, h1.length, hl]) n2 fun h' he => ?_
  exact inOrder_ok Eo is elts ts vs σ σ' V hx hs sc h1 _ E Q (hV.drop he (hV.on.fresh (Nat.le_refl _))) fun V2 h2 tk2 l2 hV2 sc2 => hQ V2 h2 tk2 l2 hV2 sc2
theorem setAll_len : ∀ {σ σ' : List LV} {is : List Nat} {ts : List T}, setAll σ is ts = some σ' → ts.length = is.length
  | _, _, [], [], _ => rfl
  | _, _, _ :: _, _ :: _, h => by rw [List.length_cons, List.length_cons, setAll_len (by exact h)]
  | _, _, [], _ :: _, h => by exact none_el h
  | _, _, _ :: _, [], h => by exact none_el h
theorem fresh_list {e : ME} {vs : List Expr} {p : Pos} {t : T} (hm : mE G e kn tbl (.List vs p) = true) (he : ev ct false σ e = some t) : ∃ l, e = .list l := by
  cases e <;> first | exact ⟨_, rfl⟩ | exact absurd hm Bool.false_ne_true | exact none_el he
theorem fresh_comp {e : ME} {x : Expr} (hx : isListC x = true) {t : T} (hm : mE G e kn tbl x = true) (he : ev ct false σ e = some t) : ∃ elt it cond, e = .comp elt it cond := by
  cases x <;> first | (first | exact ff_el hx | cases hx) | skip
  cases e <;> first | exact ⟨_, _, _, rfl⟩ | exact absurd hm Bool.false_ne_true | exact none_el he
theorem asgF_ok (H : Hyp c A n G ct) (Eo : EOk env kn) (sc : SC c V F env kn tbl σ) {i : Nat} {y : Str} {q p : Pos} {v : Expr} {e : ME} {rs : List T} (hv : vOk kn tbl i y = true) (hf : (isListX v || isListC v) = true) (hm : mE G e kn tbl v = true) (he : ev ct false σ e = some (.list rs)) :
    GivesS c A V F env kn tbl (exec (.Assign [.Name y q] v p) env) (.nxt (σ.set i (.own rs))) := by
  by_cases hl : isListX v = true
  · cases v with
    | List vs p' =>
      obtain ⟨l, rfl⟩ := fresh_list hm he
      refine mE_list_el hm fun vs' p'' e1 h1 => ?_
      cases e1
      refine xa_1_2 (Option.bind_eq_some_iff.mp he) fun ts hts he => ?_
      replace he : (if ts.length ≤ lim then some (T.list ts) else none) = some (T.list rs) := he
      split at he
      · rename_i hlen; cases he
        exact asgL_ok Eo sc hv rfl (list_fresh (fun V ec => evL_ok H l false σ kn tbl vs rs env V p' h1 hts Eo ec) hlen sc.ec)
      · exact none_el he
    | _ => exact ff_el hl
  · have hc : isListC v = true := by
      rcases Bool.or_eq_true_iff.mp hf with h | h
      · exact absurd h hl
      · exact h
    refine Classical.byContradiction fun hCC => ?_
    refine xa_3_1 (fresh_comp hc hm he) fun elt it cond rq0 => ?_
    subst rq0
    refine hCC ?_
    clear hCC
    refine mE_comp_el hm fun e z py ix ifs scp p' ex h1 h2 h3 h4 h5 => ?_
    clear hm; subst ex
    refine Classical.byContradiction fun hCC => ?_
    refine xa_1_2 (Option.bind_eq_some_iff.mp he) fun src hsrc he => ?_
    refine xa_1_2 (Option.bind_eq_some_iff.mp he) fun items hit he => ?_
    refine xa_1_2 (Option.bind_eq_some_iff.mp he) fun rs' hrs ht => ?_
    refine hCC ?_
    clear hCC
    cases ht
    have ec := sc.ec
    have ht : ∀ C cl V1 t v b m, evC ct (σ ++ [.frz t]) cond = some b → VLe V V1 → V1 C = some (.ns C m) → m z = some v → Is c V1 t v → (∀ y a, scp.names.lookup y = some .free → env.cells.lookup y = some a → cl.lookup y = some a) → GivesR c A V1 (ifsT ifs (compEnvC scp cl C env)) fun _ ok => ok = b :=
      fun C cl V1 t v b m q1 q2 q3 q4 q5 q6 => evC_ok H cond (σ ++ [.frz t]) _ _ ifs b _ V1 h5 q1 (comp_env Eo h1 q6) (comp_ec Eo h1 q6 (ec.mono q2) q3 q4 q5)
    have hel : ∀ C cl V1 t v r m, ev ct false (σ ++ [.frz t]) elt = some r → VLe V V1 → V1 C = some (.ns C m) → m z = some v → Is c V1 t v → (∀ y a, scp.names.lookup y = some .free → env.cells.lookup y = some a → cl.lookup y = some a) → Gives c A V1 (eval e (compEnvC scp cl C env)) r :=
      fun C cl V1 t v r m q1 q2 q3 q4 q5 q6 => (ev_ok H elt false (σ ++ [.frz t]) _ _ e r _ V1 h3 q1 (comp_env Eo h1 q6) (comp_ec Eo h1 q6 (ec.mono q2) q3 q4 q5)).f
    have hi := (ev_ok H it true σ kn tbl ix src env V h2 hsrc Eo ec).r
    have hsw : ∃ b, swapsWith (.ListComp e [⟨.Name z py, ix, ifs, 0⟩] scp p') (some (.Name y q)) p.line env = pure b := ⟨_, rfl⟩
    obtain ⟨b, hsw⟩ := hsw
    intro s E Q hV hQ
    cases b with
    | false =>
      refine wpAny_Assign_Name (comp_fresh H.a Eo h1 h4 hi hit hrs ht hel s E _ hV fun a vs k V1 h1' tk1 l1 hV1 hn hg hi => ?_) hsw
      refine xa_0_3 (own_new (F := F) (i := i) hV1 hn hg hi) fun l2 hV2 r2 => ?_
      exact store_gives Eo (sc.mono (l1.trans l2)) hv r2 hV2 fun V3 h3 tk3 st hV3 sc3 => hQ .next V3 h3 tk3 ((l1.trans l2).toS.trans st.leS) hV3 ⟨rfl, sc3⟩
    | true =>
      rw [exec_Assign_Name_used _ _ _ _ hsw]
      refine wpAny_bind (wpAny_standAt (wpAny_bind (comp_used H.a Eo h1 h4 hi hit hrs ht hel hV fun D C vs k V1 hp1 tk1 m l1 hV1 vD vC hg hns hDC his hDs => ?_)))
      refine xa_0_3 (own_new (F := F) (i := i) hV1 vD hg his) fun l2 hV2 r2 => ?_
      have v2C : (V1.set D (.own F i (lstO vs k))) C = none := by rw [View.set_ne _ _ (Ne.symm hDC)]; exact vC
      refine wpAny_assign_Name (store_gives Eo (sc.mono (l1.trans l2)) hv r2 hV2 fun V3 hp3 tk3 st hV3 sc3 => ?_)
      refine Classical.byContradiction fun hCC => ?_
      obtain ⟨v3C, kC⟩ := st.keep v2C
      refine xa_3_4 (hns) fun o es ep g1 g2 g3 g4 => ?_
      try clear hns
      refine hCC ?_
      clear hCC
      refine ⟨m, ⟨o, es, ep, kC _ g1, g2, g3, g4⟩, fun h'' hs'' => wpAny_pure ?_⟩
      exact hQ .next V3 h'' tk3 ((l1.trans l2).toS.trans st.leS) (hV3.drop hs''.extBut v3C) ⟨rfl, sc3⟩
end
end Mine
end
section
open PySem PySem.W PySem.Calls PyProof.Rows PySem.Spec PySem.SeqAt
set_option genInjectivity false
set_option tactic.hygienic false
namespace Mine
section
variable {c : Cfg} {A : Around} {V V' : View} {F : Addr} {n : Nat} {G : Str → Option Value} {ct : Addr → List T → Option T} {env : Env} {kn : KN} {tbl : List (Option Str)} {σ : List LV}
noncomputable def ItCls (o : Obj) : Prop := o.cls = .type "list_iterator" ∨ o.cls = .type "range_iterator"
noncomputable def VLeX (V V' : View) : Prop := ∀ a cl, V a = some cl → (∀ G k o, cl = .own G k o → ¬ ItCls o) → V' a = some cl
theorem VLeX.toF (l : VLeX V V') : VLeF V V' := fun a cl e t => l a cl e (by rintro G k o rfl; cases t)
theorem VLe.toX (l : VLe V V') : VLeX V V' := fun a cl e _ => l a cl e
theorem notIt_lst (vs : List Value) (k : Nat) : ¬ ItCls (lstO vs k) := by
  rintro (h | h) <;> (injection h with h; exact absurd h (by decide))
theorem notIt_dict (es : List DictEntry) (k : Nat) : ¬ ItCls (dictOf es k) := by
  rintro (h | h) <;> (injection h with h; exact absurd h (by decide))
theorem RV.x (l : VLeX V V') {i : Nat} {lv : LV} {v : Value} (h : RV c V F i lv v) : RV c V' F i lv v :=
  h.gen l.toF (fun _ _ _ _ _ _ h => l _ _ h (by rintro _ _ _ q; cases q; exact notIt_lst _ _)) fun _ _ _ _ h => l _ _ h (by rintro _ _ _ q; cases q; exact notIt_dict _ _)
theorem SC.x (l : VLeX V V') (h : SC c V F env kn tbl σ) : SC c V' F env kn tbl σ :=
  ⟨⟨h.ec.len, fun i x lv a b d => by
    refine xa_1_2 (h.ec.at_ i x lv a b d) fun v r1 r2 => ?_
    refine ⟨v, ?_, r2.x l⟩
    rcases r1 with ⟨q1, H, m, q2, q3⟩ | ⟨q1, a', q2, q3⟩
    · exact .inl ⟨q1, H, m, l _ _ q2 (by rintro _ _ _ q; cases q), q3⟩
    · exact .inr ⟨q1, a', q2, l _ _ q3 (by rintro _ _ _ q; cases q)⟩⟩,
   h.loc.imp fun m e => l _ _ e (by rintro _ _ _ q; cases q),
   fun i x a b => by obtain ⟨d, v, e1, e2⟩ := h.cel i x a b; exact ⟨d, v, e1, l _ _ e2 (by rintro _ _ _ q; cases q)⟩, h.nd, h.lt⟩
theorem VLeX.set {I G k} {oI : Obj} {cl : Cell} (h : V I = some (.own G k oI)) (hc : ItCls oI) : VLeX V (V.set I cl) := fun a cl' e q => by
  rw [View.set_ne]; exact e
  rintro rfl; rw [h] at e; (refine some_el e fun qq => ?_; subst qq; clear e); exact q _ _ _ rfl hc
theorem VLeX.drop {I G k} {oI : Obj} (h : V I = some (.own G k oI)) (hc : ItCls oI) : VLeX V (fun b => if b = I then none else V b) := fun a cl' e q => by
  have ha : a ≠ I := by rintro rfl; rw [h] at e; (refine some_el e fun qq => ?_; subst qq; clear e); exact q _ _ _ rfl hc
  show (if a = I then none else V a) = _
  rw [if_neg ha]; exact e
theorem Iter.keepS {V1 Va Vb : View} {NC : Addr → Cell → Prop} {J : View → Prop} (hNC : ∀ b G j o V', NC b (.own G j o) → J V' → VLeS F V1 V' → V1 b = some (.own G j o) → V' b = some (.own G j o)) {I : Addr} {items : List T} {fp : List Addr} {P : Nat → Value → Prop} {St : Nat → Heap → Prop} (W : Iter c A V1 NC I items fp P St) {h h' : Heap} {i : Nat} {o : Obj}
    (hs : St i h) (H : On Va h) (la : VLeS F V1 Va) (ja : J Va) (H' : On Vb h') (lb : VLeS F V1 Vb) (jb : J Vb)
    (ho : h.get? I = some o) (ho' : h'.get? I = some o) : St i h' := W.w.frame i h h' hs fun b hb ob e => by
  rcases W.fpI b hb with rfl | ⟨o', e'⟩ | ⟨G, j, o', q, e'⟩
  · rw [ho] at e; (refine some_el e fun qq => ?_; subst qq; clear e); exact ho'
  · have := H.frz (la _ _ e' (by intro h; exact none_el h)); rw [this] at e; (refine some_el e fun qq => ?_; subst qq; clear e); exact H'.frz (lb _ _ e' (by intro h; exact none_el h))
  · have := H.own (hNC _ _ _ _ _ q ja la e'); rw [this] at e; (refine some_el e fun qq => ?_; subst qq; clear e); exact H'.own (hNC _ _ _ _ _ q jb lb e')
theorem for_block (hA : AOk n A) {target it : Expr} {body : List Stmt} {pos : Pos} {t : T} {items : List T} {step : List LV → T → Option Out} {out : Out} {NC : Addr → Cell → Prop} {J : View → Prop} (hNC : ∀ b G j o V1 V', NC b (.own G j o) → J V' → VLeS F V1 V' → V1 b = some (.own G j o) → V' b = some (.own G j o)) (hJ : ∀ V V', VLeX V V' → J V → J V') (hJ0 : J V) (hs : ∀ x, foldedSetIterable it env x = pure x)
    (hi : GivesR c A V (eval it env) fun V' v => IsN c V' NC t v) (e : iterT t = some items) (run : runFor step items σ = some out) (sc : SC c V F env kn tbl σ)
    (hgo : ∀ I v (s : Shared) (E : Value → Shared → Prop) (Q : Unit → Shared → Prop), (∃ o, s.heap.get? I = some o ∧ ItCls o) → Q () s → wpAny c.M A (letOwnedTupleGo target (.ref I) v) Q E s)
    (hturn : ∀ V1 σk t v o (s : Shared) (E : Value → Shared → Prop) (Q : Flow → Shared → Prop), step σk t = some o → SC c V1 F env kn tbl σk → J V1 → Is c V1 t v → Vw c V1 s.heap →
      (∀ f V' h' tk, VLeS F V1 V' → Vw c V' h' → J V' → OutOk c V' F env kn tbl o f → Q f { s with heap := h', toks := tk }) → wpAny c.M A (assign target env v) (fun _ s₂ => wpAny c.M A (execs body env) Q E s₂) E s) :
    GivesS c A V F env kn tbl (exec (.For target it body [] pos) env) out := by
  intro s E Q hV hQ
  refine wpAny_For (hi s E _ hV fun v V1 h1 tk1 l1 hV1 r1 => iter_gives hA r1 e hV1 fun I fp P St h2 tk2 W hst hV2 hlen => ?_) hs
  refine xa_1_2 (W.live 0 _ hst) fun oI hoI hoc => ?_
  have hV3 := hV2.add (a := I) (cl := .own (F + 1) 1 oI) W.new hoI rfl
  refine codeAny_forLoop_any (fun k s' => ∃ h tk U done rest σk oI, s' = { s with heap := h, toks := tk } ∧ items = done ++ rest ∧ k = rest.length + 1 ∧ runFor step rest σk = some out ∧ Vw c U h ∧ VLeS F V1 U ∧ U I = some (.own (F + 1) 1 oI) ∧ ItCls oI ∧ SC c U F env kn tbl σk ∧ J U ∧ St done.length h) ?_
    (items.length + 1) ⟨h2, tk2, _, [], items, σ, oI, rfl, rfl, rfl, run, hV3, VLeS.setN W.new, View.set_self .., hoc, (sc.mono l1).mono (VLe.set W.new), hJ _ _ (VLe.toX (l1.trans (VLe.set W.new))) hJ0, hst⟩
  rintro k s' ⟨h, tk, U, done, rest, σk, oI', rfl, hit, rfl, hrun, hU, lU, uI, hoc', scU, jU, hst'⟩
  cases rest with
  | nil =>
    (refine some_el hrun fun qq => ?_; subst qq; clear hrun)
    rw [List.append_nil] at hit
    subst hit
    refine W.w.done _ _ _ hst' fun h₂ tk₂ hk => wpAny_execs_nil ?_
    refine hQ .next (fun b => if b = I then none else U b) h₂ tk₂ (fun a cl q ht => ?_) ⟨fun a cl q => ?_, fun a o q => ?_, ?_⟩ ⟨rfl, scU.x (VLeX.drop uI hoc')⟩
    · have q1 := l1 _ _ q
      have ha : a ≠ I := by rintro rfl; rw [W.new] at q1; exact none_el q1
      show (if a = I then none else U a) = _
      rw [if_neg ha]; exact lU _ _ q1 ht
    · replace q : (if a = I then none else U a) = some cl := q
      by_cases ha : a = I
      · rw [if_pos ha] at q; exact none_el q
      · rw [if_neg ha] at q
        refine xa_1_2 (hU.on a cl q) fun o ho hok => ?_
        exact ⟨o, hk a o (by simpa using ha) ho, hok⟩
    · have q1 := hU.st a o q
      have ha : a ≠ I := by rintro rfl; rw [uI] at q1; cases q1
      show (if a = I then none else U a) = _
      rw [if_neg ha]; exact q1
    · obtain ⟨L, G, m', q⟩ := hU.nsx
      have ha : L ≠ I := by rintro rfl; rw [uI] at q; cases q
      exact ⟨L, G, m', by show (if L = I then none else U L) = _; rw [if_neg ha]; exact q⟩
  | cons t' rest =>
    have hlt : done.length < items.length := by rw [hit, List.length_append, List.length_cons]; omega
    refine W.w.item done.length _ _ _ hlt hst' fun v h₂ tk₂ hP hst₂ hk => ?_
    refine xa_1_2 (W.item _ _ hP) fun t'' ht1 ht2 => ?_
    have htt : t'' = t' := by
      rw [hit, List.getElem?_append_right (Nat.le_refl _), Nat.sub_self] at ht1
      simpa using ht1.symm
    subst htt
    refine xa_1_2 (W.live _ _ hst₂) fun oI₂ hoI₂ hoc₂ => ?_
    have hU₂ := hU.upd (a := I) (cl := .own (F + 1) 1 oI₂) uI (F := F + 1) rfl (h' := h₂) (fun b o hb q => hk b o (by simpa using hb) q) hoI₂ rfl (.inl (by intro _ _ q; cases q))
    have sc₂ : SC c (U.set I (.own (F + 1) 1 oI₂)) F env kn tbl σk := scU.x (VLeX.set uI hoc')
    have j₂ : J (U.set I (.own (F + 1) 1 oI₂)) := hJ _ _ (VLeX.set uI hoc') jU
    have l₂ : VLeS F V1 (U.set I (.own (F + 1) 1 oI₂)) := fun a cl q ht => by
      rw [View.set_ne]; exact lU _ _ q ht
      rintro rfl; rw [W.new] at q; exact none_el q
    have u2I : (U.set I (.own (F + 1) 1 oI₂)) I = some (.own (F + 1) 1 oI₂) := View.set_self ..
    generalize U.set I (.own (F + 1) 1 oI₂) = U₂ at hU₂ sc₂ j₂ l₂ u2I
    have hI2 : Is c U₂ t'' v := ht2.mono l₂.toF
    cases ho : step σk t'' with
    | none => rw [runFor, ho] at hrun; exact none_el hrun
    | some o =>
      refine hgo I v _ _ _ ⟨oI₂, hoI₂, hoc₂⟩ (hturn U₂ σk t'' v o _ _ _ ho sc₂ j₂ hI2 hU₂ fun f U₃ h₃ tk₃ l₃ hU₃ j₃ hf => ?_)
      have u3I := l₃ _ _ u2I (by intro h; cases h)
      have hst₃ : St (done.length + 1) h₃ := Iter.keepS (fun b G j o V' => hNC b G j o V1 V') W hst₂ hU₂.on l₂ j₂ hU₃.on (l₂.trans l₃) j₃ hoI₂ (hU₃.on.own u3I)
      cases o with
      | nxt σ' =>
        obtain ⟨rfl, sc₃⟩ := hf
        rw [runFor, ho] at hrun
        exact ⟨_, Nat.lt_succ_self _, h₃, tk₃, U₃, done ++ [t''], rest, σ', oI₂, rfl, by rw [hit]; simp, rfl, hrun, hU₃, l₂.trans l₃, u3I, hoc₂, sc₃, j₃, by simpa using hst₃⟩
      | ret r =>
        refine xa_1_2 (hf) fun w rq0 hw => ?_
        try clear hf
        subst rq0
        rw [runFor, ho] at hrun
        (refine some_el hrun fun qq => ?_; subst qq; clear hrun)
        exact hQ (.ret w) U₃ h₃ tk₃ (l1.toS.trans (l₂.trans l₃)) hU₃ ⟨w, rfl, hw⟩
      | retO r =>
        refine Classical.byContradiction fun hCC => ?_
        refine xa_4_2 (hf) fun w vs k j rq0 hw => ?_
        try clear hf
        subst rq0
        refine hCC ?_
        clear hCC
        rw [runFor, ho] at hrun
        (refine some_el hrun fun qq => ?_; subst qq; clear hrun)
        exact hQ (.ret (.ref w)) U₃ h₃ tk₃ (l1.toS.trans (l₂.trans l₃)) hU₃ ⟨w, vs, k, j, rfl, hw⟩
theorem while_block {test : Expr} {body : List Stmt} {pos : Pos} {tst : List LV → Option Bool} {bod : List LV → Option Out} {out : Out}
    (ht : ∀ V1 σk b, tst σk = some b → SC c V1 F env kn tbl σk → GivesR c A V1 (isTrue test env (eval test env)) fun _ b' => b' = b)
    (hb : ∀ V1 σk o, bod σk = some o → SC c V1 F env kn tbl σk → GivesS c A V1 F env kn tbl (execs body env) o) {k : Nat} (run : runWhl tst bod k σ = some out) (sc : SC c V F env kn tbl σ) :
    GivesS c A V F env kn tbl (exec (.While test body [] pos) env) out := by
  intro s E Q hV hQ
  refine wpAny_While ?_
  refine codeAny_whileLoop (fun k s' => ∃ h tk U σk, s' = { s with heap := h, toks := tk } ∧ runWhl tst bod k σk = some out ∧ Vw c U h ∧ VLeS F V U ∧ SC c U F env kn tbl σk) ?_ k ⟨s.heap, s.toks, V, σ, rfl, run, hV, VLeS.refl F V, sc⟩
  rintro k s' ⟨h, tk, U, σk, rfl, hrun, hU, lU, scU⟩
  cases k with
  | zero => exact none_el hrun
  | succ k =>
    rw [runWhl] at hrun
    cases htb : tst σk with
    | none => rw [htb] at hrun; exact none_el hrun
    | some b =>
      rw [htb] at hrun
      refine ht U σk b htb scU _ _ _ hU fun b' U₁ h₁ tk₁ l₁ hU₁ hb' => ?_
      subst hb'
      cases b' with
      | false =>
        (refine some_el hrun fun qq => ?_; subst qq; clear hrun)
        exact wpAny_execs_nil (hQ .next U₁ h₁ tk₁ (lU.trans l₁.toS) hU₁ ⟨rfl, scU.mono l₁⟩)
      | true =>
        cases ho : bod σk with
        | none => rw [ho] at hrun; exact none_el hrun
        | some o =>
          rw [ho] at hrun
          refine hb U₁ σk o ho (scU.mono l₁) _ _ _ hU₁ fun f U₃ h₃ tk₃ l₃ hU₃ hf => ?_
          cases o with
          | nxt σ' =>
            obtain ⟨rfl, sc₃⟩ := hf
            exact ⟨k, Nat.lt_succ_self _, h₃, tk₃, U₃, σ', rfl, hrun, hU₃, (lU.trans l₁.toS).trans l₃, sc₃⟩
          | ret r =>
            refine xa_1_2 (hf) fun w rq0 hw => ?_
            try clear hf
            subst rq0
            (refine some_el hrun fun qq => ?_; subst qq; clear hrun)
            exact hQ (.ret w) U₃ h₃ tk₃ ((lU.trans l₁.toS).trans l₃) hU₃ ⟨w, rfl, hw⟩
          | retO r =>
            refine Classical.byContradiction fun hCC => ?_
            refine xa_4_2 (hf) fun w vs k j rq0 hw => ?_
            try clear hf
            subst rq0
            refine hCC ?_
            clear hCC
            (refine some_el hrun fun qq => ?_; subst qq; clear hrun)
            exact hQ (.ret (.ref w)) U₃ h₃ tk₃ ((lU.trans l₁.toS).trans l₃) hU₃ ⟨w, vs, k, j, rfl, hw⟩
end
end Mine
end
section
open PySem PySem.W PySem.Calls PyProof.Rows PySem.Spec PySem.SeqAt
set_option genInjectivity false
set_option tactic.hygienic false
namespace Mine
section
variable {c : Cfg} {A : Around} {V V' : View} {F : Addr} {n : Nat} {G : Str → Option Value} {ct : Addr → List T → Option T} {env : Env} {kn : KN} {tbl : List (Option Str)} {σ : List LV}
theorem newsAt_hide {h : Heap} {L d : Addr} {p : Addr × Obj} (hp : p ∈ (newsAt h L).filter fun p => p.1 != d) : L < p.1 ∧ h.get? p.1 = some p.2 ∧ p.1 ≠ d := by
  obtain ⟨h1, h2⟩ := List.mem_filter.mp hp
  obtain ⟨a, b⟩ := mem_newsAt.mp h1
  exact ⟨a, b, by simpa using h2⟩
theorem set_vec (O : VecOk c) {x dx : Addr} {es es' : List DictEntry} {k k' : Nat} {name : Str} {v : Value} {s : Shared} {E : Value → Shared → Prop} {Q : Unit → Shared → Prop} (hV : Vw c V s.heap) (hx : s.heap.get? x = some (instObj c.VC dx)) (hdx : s.heap.get? dx = some (dictOf es k)) (hns : ∀ F m, V dx ≠ some (.ns F m))
    (hn : name ∈ ([("kind" : Str), "items", "attrs", "shared", "loose"] : List Str)) (hl : (getL name es).isSome = true) (e : (putL name (PyData.keyHash c.w.params name) (.str name (s.toks + 1)) v es, putN name es k) = (es', k')) (hz : es'.length ≤ 1000)
    (hQ : ∀ h', h'.get? dx = some (dictOf es' k') → (∀ b cl, b ≠ dx → V b = some cl → ∃ o, h'.get? b = some o ∧ cl.ok o) → Q () { s with heap := h', toks := s.toks + 2 }) :
    wpAny c.M A (setAttr (.ref x) name v) Q E s := by
  refine Classical.byContradiction fun hCC => ?_
  refine xa_3_1 (hV.nsx) fun L F m eL => ?_
  refine hCC ?_
  clear hCC
  have hLd : dx ≠ L := by rintro rfl; exact hns _ _ eL
  have I : InstAt s.heap x (instObj c.VC dx) c.VC (some (dictOf es k)) := ⟨hx, rfl, rfl, hdx⟩
  obtain ⟨e1, e2⟩ := Prod.mk.inj e
  have FF : Fr ((cutAt s.heap L).hide dx) L s.heap m := by
    refine ⟨hV.on.ns eL, fun b o q => ?_, ?_⟩
    · have q := Heap.of_hide q
      rw [cutAt_get] at q; split at q
      · exact q
      · exact none_el q
    · rw [Heap.hide_size]
      show ((s.heap.objs.toList.take L).toArray).size ≤ L
      rw [List.size_toArray, List.length_take]; exact Nat.min_le_left _ _
  have NN : News ((cutAt s.heap L).hide dx) L s.heap ([] ++ (dx, dictOf es k) :: (newsAt s.heap L).filter fun p => p.1 != dx) := fun p hp => by
    rcases List.mem_cons.mp hp with rfl | hp
    · exact ⟨hdx, hLd, Heap.hide_self _ _⟩
    · obtain ⟨a, b, d⟩ := newsAt_hide hp
      refine ⟨b, Nat.ne_of_gt a, ?_⟩
      rw [Heap.hide_ne _ d, cutAt_get, if_neg (Nat.not_lt.mpr (Nat.le_of_lt a))]
  refine set_plain hV.K I O.sa (osa_dict (s := { s with toks := s.toks + 1 }) FF NN hV.K I rfl O.po (O.tk name hn) O.hd hl (fun p hp => by cases hp) (fun p hp => (newsAt_hide hp).2.2)
    (by rw [putName_dict, e1, e2]) rfl hz fun h' F' N' => ?_)
  refine hQ h' (N' (dx, dictOf es' k') (by simp)).1 fun b cl hb q => ?_
  refine xa_1_2 (hV.on b cl q) fun o ho hok => ?_
  rcases Nat.lt_trichotomy b L with hl | hl | hl
  · exact ⟨o, F'.keep b o (by rw [Heap.hide_ne _ hb, cutAt_get, if_pos hl]; exact ho), hok⟩
  · subst hl
    rw [eL] at q; (refine some_el q fun qq => ?_; subst qq; clear q)
    refine Classical.byContradiction fun hCC => ?_
    refine xa_3_4 (F'.ns) fun o' es ep q1 q2 q3 q4 => ?_
    refine hCC ?_
    clear hCC
    exact ⟨o', q1, es, ep, q2, q3, q4⟩
  · exact ⟨o, (N' (b, o) (by
      refine List.mem_cons_of_mem _ (List.mem_filter.mpr ⟨mem_newsAt.mpr ⟨hl, ho⟩, by simpa using hb⟩))).1, hok⟩
theorem set_view (O : VecOk c) {x dx : Addr} {es es' : List DictEntry} {k k' : Nat} {name : Str} {v : Value} {i : Nat} {s : Shared} {E : Value → Shared → Prop} {Q : Unit → Shared → Prop} (hV : Vw c V s.heap) (hx : V x = some (.frz (instObj c.VC dx))) (hdx : V dx = some (.own F i (dictOf es k)))
    (hn : name ∈ ([("kind" : Str), "items", "attrs", "shared", "loose"] : List Str)) (hl : (getL name es).isSome = true) (e : (putL name (PyData.keyHash c.w.params name) (.str name (s.toks + 1)) v es, putN name es k) = (es', k')) (hz : es'.length ≤ 1000)
    (hQ : ∀ h' tk, Vw c (V.set dx (.own F i (dictOf es' k'))) h' → Q () { s with heap := h', toks := tk }) :
    wpAny c.M A (setAttr (.ref x) name v) Q E s := by
  refine set_vec O hV (hV.on.frz hx) (hV.on.own hdx) (fun F m q => by rw [hdx] at q; cases q) hn hl e hz fun h' g1 g2 => hQ h' _ ⟨fun b cl q => ?_, fun b o q => ?_, ?_⟩
  · by_cases hb : b = dx
    · subst hb; rw [View.set_self] at q; (refine some_el q fun qq => ?_; subst qq; clear q); exact ⟨_, g1, rfl⟩
    · rw [View.set_ne _ _ hb] at q; exact g2 b cl hb q
  · have := hV.st b o q
    rw [View.set_ne]; exact this
    rintro rfl; rw [hdx] at this; cases this
  · obtain ⟨L, F', m, q⟩ := hV.nsx
    refine ⟨L, F', m, ?_⟩
    rw [View.set_ne]; exact q
    rintro rfl; rw [hdx] at q; cases q
set_option tactic.hygienic true in
theorem getL_put (name : Str) (h : Int) (t : Tok) (v : Value) : ∀ es : List DictEntry, getL name (putL name h (.str name t) v es) = some (some v)
  | [] => by
    unfold putL getL
    have : (Value.str name t).isStr name = true := by show (name == name) = true; exact beq_self_eq_true _
    simp [this]
  | e :: r => by
    unfold putL
    by_cases he : e.key.isStr name = true
    · rw [if_pos he]; unfold getL; simp [he]
    · rw [if_neg he]
      have := getL_put name h t v r
      unfold getL at this ⊢
      simp only [List.find?_cons, he]
      split at this
      · rename_i e' q; simpa [q] using this
      · split at this <;> (first | exact none_el this | cases this)
theorem refKey_put (name : Str) (h : Int) (t : Tok) (v : Value) : ∀ es : List DictEntry, es.any (·.refKey) = false → (putL name h (.str name t) v es).any (·.refKey) = false
  | [], _ => rfl
  | e :: r, hh => by
    rw [List.any_cons, Bool.or_eq_false_iff] at hh
    unfold putL
    split
    · rw [List.any_cons, Bool.or_eq_false_iff]; exact ⟨hh.1, hh.2⟩
    · rw [List.any_cons, Bool.or_eq_false_iff]; exact ⟨hh.1, refKey_put name h t v r hh.2⟩
theorem getL_some {name : Str} {es : List DictEntry} (h : es.any (·.refKey) = false) : (getL name es).isSome = true := by
  unfold getL
  split
  · rfl
  · rw [h]; rfl
theorem getL_put_ne {name x : Str} (hx : name ≠ x) (h : Int) (t : Tok) (v : Value) : ∀ es : List DictEntry, es.any (·.refKey) = false → getL x (putL name h (.str name t) v es) = getL x es
  | [], _ => by
    have : (Value.str name t).isStr x = false := by show (name == x) = false; exact beq_eq_false_iff_ne.mpr hx
    unfold putL getL
    simp only [List.find?_cons, List.find?_nil, this, List.any_cons, List.any_nil]
    rfl
  | e :: r, hh => by
    rw [List.any_cons, Bool.or_eq_false_iff] at hh
    have ih := getL_put_ne hx h t v r hh.2
    unfold putL
    split
    · rename_i he
      have : e.key.isStr x = false := by
        cases hk : e.key with
        | str z u =>
          rw [hk] at he
          have : z = name := eq_of_beq (show (z == name) = true from he)
          subst this
          show (z == x) = false; exact beq_eq_false_iff_ne.mpr hx
        | _ => rw [hk] at he; exact ff_el he
      unfold getL
      simp only [List.find?_cons, this, List.any_cons]
      rfl
    · unfold getL at ih ⊢
      simp only [List.find?_cons, List.any_cons, hh.1, Bool.false_or]
      cases hq : e.key.isStr x with
      | true => rfl
      | false => exact ih
theorem putL_length (name : Str) (h : Int) (key v : Value) : ∀ es : List DictEntry, (putL name h key v es).length = if es.any (·.key.isStr name) then es.length else es.length + 1
  | [] => rfl
  | e :: r => by
    unfold putL
    by_cases he : e.key.isStr name = true
    · rw [if_pos he, List.any_cons, he]; rfl
    · rw [if_neg he, List.length_cons, putL_length name h key v r, List.any_cons]
      have : e.key.isStr name = false := by simpa using he
      rw [this, Bool.false_or]
      split <;> rfl
set_option tactic.hygienic true in
theorem has_of_get {name : Str} {es : List DictEntry} {v : Value} (h : getL name es = some (some v)) : es.any (·.key.isStr name) = true := by
  unfold getL at h
  split at h
  · rename_i e q
    exact List.any_eq_true.mpr ⟨e, List.mem_of_find?_eq_some q, List.find?_some (p := fun e : DictEntry => e.key.isStr name) q⟩
  · split at h <;> (first | exact none_el h | cases h)
theorem hasnt_of_get {name : Str} {es : List DictEntry} (h : getL name es = some none) : es.any (·.key.isStr name) = false := by
  unfold getL at h
  split at h
  · cases h
  · rename_i q
    rw [List.any_eq_false]
    exact fun e he => by simpa using List.find?_eq_none.mp q e he
theorem getL_put_keep {name x : Str} (hx : name ≠ x) (h : Int) (t : Tok) (v : Value) {w : Value} : ∀ {es : List DictEntry}, getL x es = some (some w) → getL x (putL name h (.str name t) v es) = some (some w)
  | [], hh => by cases hh
  | e :: r, hh => by
    unfold putL
    split
    · rename_i he
      have hf : e.key.isStr x = false := by
        cases hk : e.key with
        | str z u =>
          rw [hk] at he
          have : z = name := eq_of_beq (show (z == name) = true from he)
          subst this
          show (z == x) = false; exact beq_eq_false_iff_ne.mpr hx
        | _ => rw [hk] at he; exact ff_el he
      unfold getL at hh ⊢
      simp only [List.find?_cons, hf] at hh ⊢
      split at hh
      · rename_i q; simpa [q] using hh
      · split at hh <;> (first | exact none_el hh | cases hh)
    · unfold getL at hh
      simp only [List.find?_cons] at hh
      cases hq : e.key.isStr x with
      | true =>
        rw [hq] at hh
        unfold getL
        simp only [List.find?_cons, hq]
        exact hh
      | false =>
        rw [hq] at hh
        have ih : getL x r = some (some w) := by
          unfold getL
          dsimp only at hh
          split at hh
          · rename_i q; rw [q]; exact hh
          · split at hh <;> (first | exact none_el hh | cases hh)
        have := getL_put_keep hx h t v ih
        unfold getL at this ⊢
        simp only [List.find?_cons, hq]
        split at this
        · rename_i q; rw [q]; exact this
        · split at this <;> (first | exact none_el this | cases this)
theorem vecDict_attrs {kv iv av v : Value} {es : List DictEntry} {k k' : Nat} {h : Int} {t : Tok} (H : VecDict kv iv av (dictOf es k)) : VecDict kv iv v (dictOf (putL "attrs" h (.str "attrs" t) v es) k') := by
  refine Classical.byContradiction fun hCC => ?_
  obtain ⟨es', n, e, h1, h2, h3, ⟨b, h4⟩, h5⟩ := H
  refine hCC ?_
  clear hCC
  have : es = es' := by
    have := congrArg Obj.data e
    injection this with this _
    simpa using this
  subst this
  refine ⟨_, _, rfl, getL_put_keep (by decide) _ _ _ h1, getL_put_keep (by decide) _ _ _ h2, getL_put .., ⟨b, getL_put_keep (by decide) _ _ _ h4⟩, ?_⟩
  rw [putL_length, has_of_get h3]; exact h5
theorem vecDict_shared {kv iv av : Value} {c : Bool} {es : List DictEntry} {k k' : Nat} {h : Int} {t : Tok} (H : VecDict kv iv av (dictOf es k)) : VecDict kv iv av (dictOf (putL "shared" h (.str "shared" t) (.bool c) es) k') := by
  refine Classical.byContradiction fun hCC => ?_
  obtain ⟨es', n, e, h1, h2, h3, ⟨b, h4⟩, h5⟩ := H
  refine hCC ?_
  clear hCC
  have : es = es' := by
    have := congrArg Obj.data e
    injection this with this _
    simpa using this
  subst this
  refine ⟨_, _, rfl, getL_put_keep (by decide) _ _ _ h1, getL_put_keep (by decide) _ _ _ h2, getL_put_keep (by decide) _ _ _ h3, ⟨c, getL_put ..⟩, ?_⟩
  rw [putL_length, has_of_get h4]; exact h5
end
end Mine
end
section
open PySem PySem.W PySem.Calls PyProof.Rows PySem.Spec PySem.SeqAt
set_option genInjectivity false
namespace Mine
section
variable {c : Cfg} {A : Around} {V V' : View} {F : Addr} {n : Nat} {G : Str → Option Value} {ct : Addr → List T → Option T} {env : Env} {kn : KN} {tbl : List (Option Str)} {σ : List LV}
theorem init_step (O : VecOk c) {U : View} {L x dx : Addr} {es : List DictEntry} {k : Nat} {m : Str → Option Value} {nm : Str} {value : Expr} {p1 p2 p3 : Pos} {env : Env} {v : Value} (hk : env.scope.kind = .function) (hself : env.kindOf ("self" : Str) = some .local) (hL : env.locals = L) (uL : U L = some (.ns L m)) (ms : m "self" = some (.ref x))
    (ux : U x = some (.frz (instObj c.VC dx))) (ud : U dx = some (.own L 0 (dictOf es k))) (hn : nm ∈ ([("kind" : Str), "items", "attrs", "shared", "loose"] : List Str)) (hr : es.any (·.refKey) = false) (hl : es.length ≤ 900)
    (hval : ∀ (s : Shared) (E Q : Value → Shared → Prop), Vw c U s.heap → (∀ tk, Q v { s with toks := tk }) → wpAny c.M A (eval value env) Q E s) (hsw : isCompX value = false)
    {s : Shared} {E : Value → Shared → Prop} {Q : Flow → Shared → Prop} (hV : Vw c U s.heap)
    (hQ : ∀ h' tk tk0, Vw c (U.set dx (.own L 0 (dictOf (putL nm (PyData.keyHash c.w.params nm) (.str nm tk0) v es) (putN nm es k)))) h' → Q .next { s with heap := h', toks := tk }) :
    wpAny c.M A (exec (.Assign [.Attribute (.Name "self" p1) nm p2] value p3) env) Q E s := by
  refine plainObj_wpAny_Assign_Attribute (hval s E _ hV fun tk => ?_) (swaps_no hsw)
  refine wpAny_Name (wpAny_loadName_local hk hself (by rw [hL]; exact hV.on.ns uL) ms ?_) (by decide)
  refine set_view O (s := { s with toks := tk }) hV ux ud hn (getL_some hr) rfl (by rw [putL_length]; split <;> omega) fun h' tk' hV' => hQ h' tk' _ hV'
theorem vec_raw (O : VecOk c) (IO : IniOk c) {kv iv av : Value} {vs : List Value} (hvs : vs = [kv, iv, av] ∨ (vs = [kv, iv] ∧ av = .none)) (hA : A.depth + 3 < recursionLimit) {s : Shared} {E Q : Value → Shared → Prop} (hV : Vw c V s.heap)
    (hQ : ∀ x dx es k h' tk, Vw c V h' → V x = none → V dx = none → x ≠ dx → h'.get? x = some (instObj c.VC dx) → h'.get? dx = some (dictOf es k) → VecDict kv iv av (dictOf es k) → Q (.ref x) { s with heap := h', toks := tk }) :
    wpAny c.M A (call (.ref c.VC) vs) Q E s := by
  refine Classical.byContradiction fun hCC => ?_
  refine xa_4_1 (hV.bridge) fun h₀ L₀ m₀ news B => ?_
  refine hCC ?_
  clear hCC
  refine wpAny_call (W.make_K (rest := vs) (kw := []) (fI := c.ini) B.fr B.nw hV.K O.mks O.ini (eq_of_beq O.fn) fun x dx h₁ F' N' hlt hdx => ?_)
  have hV1 : Vw c V h₁ := B.back h₁ F' fun q hq => N' q (.tail _ (.tail _ hq))
  have nx := N' _ (.head _)
  have nd := N' _ (.tail _ (.head _))
  have vd : V dx = none := B.fresh dx hlt nd.2.2 nd.2.1
  have vx : V x = none := B.fresh x (fun q hq => Nat.lt_trans (hlt q hq) hdx) nx.2.2 nx.2.1
  have hxd : x ≠ dx := Nat.ne_of_gt hdx
  refine Classical.byContradiction fun hCC => ?_
  refine xa_1_4 (IO.ex) fun fd hfd hok hb2 hb3 => ?_
  refine xa_1_2 (fnAt_some hfd) fun o ho hdata => ?_
  refine hCC ?_
  clear hCC
  simp only [iniOk, Bool.and_eq_true, Bool.not_eq_true', List.all_eq_true, bne_iff_ne, ne_eq, beq_iff_eq] at hok
  refine Classical.byContradiction fun hCC => ?_
  refine ya_7 (hok) fun k1 k2 k3 k4 k5 k6 k7 => ?_
  try clear hok
  refine hCC ?_
  clear hCC
  split at k7
  · rename_i body hbody
    have hb : BindsTo { s with heap := h₁ } fd ⟨.ref x :: vs, []⟩ (iniPs.zip [.ref x, kv, iv, av]) := by
      rcases hvs with rfl | ⟨rfl, rfl⟩
      · exact hb3 _ _ _ _ _ hV1.K
      · exact hb2 _ _ _ _ hV1.K
    refine codeAny_call_def (s := { s with heap := h₁ }) (by have hw : Code.weight (.builtin "type.__call__" ⟨.ref c.VC :: vs, []⟩) ≤ 3 := (by show (_ : Nat) ≤ 3; with_unfolding_all exact Nat.le_of_ble_eq_true rfl); show A.depth + Code.weight (.builtin "type.__call__" ⟨.ref c.VC :: vs, []⟩) < _; omega) (hV1.K _ _ ho) hdata hV1.lim (codeRec_of hV1.K k4) hbody hb (fun y hy => k5 y hy) (fun y hy => ?_) (fun h₂ hns hk₂ => ?_) k2 k3 k1
    · refine k6 y.1 ?_
      have : y.1 ∈ (iniPs.zip [Value.ref x, kv, iv, av]).map (·.1) := List.mem_map_of_mem hy
      exact this
    · dsimp only at hns hk₂
      have hxg := hk₂ _ _ nx.1
      have hdg := hk₂ _ _ nd.1
      have hxl := Heap.lt_size nx.1
      have hdl := Heap.lt_size nd.1
      generalize hLe : h₁.objs.size = L at *
      have vL : V L = none := hV1.on.fresh (Nat.le_of_eq hLe)
      have hxL : x ≠ L := Nat.ne_of_lt hxl
      have hdL : dx ≠ L := Nat.ne_of_lt hdl
      generalize hm : (fun y => (iniPs.zip [Value.ref x, kv, iv, av]).reverse.lookup y) = m at hns
      have m1 : m "self" = some (.ref x) := by rw [← hm]; rfl
      have m2 : m "kind" = some kv := by rw [← hm]; rfl
      have m3 : m "items" = some iv := by rw [← hm]; rfl
      have m4 : m "attrs" = some av := by rw [← hm]; rfl
      refine Classical.byContradiction fun hCC => ?_
      refine xa_3_4 (hns) fun oL esL epL q1 q2 q3 q4 => ?_
      try clear hns
      refine hCC ?_
      clear hCC
      have hV2 : Vw c V h₂ := hV1.mono hk₂
      have hV3 := hV2.add (a := x) (cl := .frz (instObj c.VC dx)) vx hxg rfl
      have hV4 := hV3.add (a := dx) (cl := .own L 0 (dictOf [] 0)) (by rw [View.set_ne _ _ (Ne.symm hxd)]; exact vd) hdg rfl
      have hV5 := hV4.add (a := L) (cl := .ns L m) (by rw [View.set_ne _ _ (Ne.symm hdL), View.set_ne _ _ (Ne.symm hxL)]; exact vL) q1 ⟨esL, epL, q2, q3, q4⟩
      have l5 : VLe V (((V.set x (.frz (instObj c.VC dx))).set dx (.own L 0 (dictOf [] 0))).set L (.ns L m)) := VLe.setOf (VLe.setOf (VLe.set vx) vd) vL
      have ux : (((V.set x (.frz (instObj c.VC dx))).set dx (.own L 0 (dictOf [] 0))).set L (.ns L m)) x = some (.frz (instObj c.VC dx)) := by rw [View.set_ne _ _ hxL, View.set_ne _ _ hxd, View.set_self]
      have ud : (((V.set x (.frz (instObj c.VC dx))).set dx (.own L 0 (dictOf [] 0))).set L (.ns L m)) dx = some (.own L 0 (dictOf [] 0)) := by rw [View.set_ne _ _ hdL, View.set_self]
      have uL : (((V.set x (.frz (instObj c.VC dx))).set dx (.own L 0 (dictOf [] 0))).set L (.ns L m)) L = some (.ns L m) := View.set_self ..
      generalize (((V.set x (.frz (instObj c.VC dx))).set dx (.own L 0 (dictOf [] 0))).set L (.ns L m)) = U at hV5 l5 ux ud uL
      have eL : (callEnv fd L c.ini).locals = L := rfl
      have hkd : (callEnv fd L c.ini).scope.kind = .function := k1
      have hs : (callEnv fd L c.ini).kindOf ("self" : Str) = some .local := k6 _ (by decide)
      have hkk : (callEnv fd L c.ini).kindOf ("kind" : Str) = some .local := k6 _ (by decide)
      have hki : (callEnv fd L c.ini).kindOf ("items" : Str) = some .local := k6 _ (by decide)
      have hka : (callEnv fd L c.ini).kindOf ("attrs" : Str) = some .local := k6 _ (by decide)
      generalize callEnv fd L c.ini = env at eL hkd hs hkk hki hka ⊢
      refine iniBody_el k7 fun _ _ _ _ _ q0 j1 j2 j3 j4 j5 => ?_
      subst q0
      · refine Classical.byContradiction fun hCC => ?_
        refine xa_4_1 (asgN j1) fun _ _ _ _ rq0 => ?_
        subst rq0
        refine xa_4_1 (asgN j2) fun _ _ _ _ rq0 => ?_
        subst rq0
        refine xa_4_1 (asgN j3) fun _ _ _ _ rq0 => ?_
        subst rq0
        refine xa_6_1 (asgC j4) fun _ _ _ b4 _ _ rq0 => ?_
        subst rq0
        refine xa_6_1 (asgC j5) fun _ _ _ b5 _ _ rq0 => ?_
        subst rq0
        refine hCC ?_
        clear hCC
        have named : ∀ (A' : Around) (U : View) (y : Str) (w : Value) (p : Pos), U L = some (.ns L m) → env.kindOf y = some .local → m y = some w → (y == ("__debug__" : Str)) = false → ∀ (s : Shared) (E Q : Value → Shared → Prop), Vw c U s.heap → (∀ tk, Q w { s with toks := tk }) → wpAny c.M A' (eval (.Name y p) env) Q E s :=
          fun A' U y w p uL hk hm hd s E Q hV hQ => wpAny_Name (wpAny_loadName_local hkd hk (by rw [eL]; exact hV.on.ns uL) hm (hQ s.toks)) hd
        have go : ∀ {U : View} {o : Obj}, U L = some (.ns L m) → U x = some (.frz (instObj c.VC dx)) → U dx = some (.own L 0 o) → ∀ o', (U.set dx (.own L 0 o')) L = some (.ns L m) ∧ (U.set dx (.own L 0 o')) x = some (.frz (instObj c.VC dx)) ∧ (U.set dx (.own L 0 o')) dx = some (.own L 0 o') ∧ (VLe V U → VLe V (U.set dx (.own L 0 o'))) :=
          fun a b d o' => ⟨by rw [View.set_ne _ _ (Ne.symm hdL)]; exact a, by rw [View.set_ne _ _ hxd]; exact b, View.set_self .., fun l => l.setOf vd⟩
        refine wpAny_execs_cons (init_step O hkd hs eL uL m1 ux ud (by simp) rfl (by decide) (named _ U _ kv _ uL hkk m2 (by decide)) rfl hV5 fun h1 tk1 t1 hU1 => ?_)
        refine Classical.byContradiction fun hCC => ?_
        refine xa_0_4 (go uL ux ud (dictOf (putL "kind" (PyData.keyHash c.w.params "kind") (.str "kind" t1) kv []) (putN "kind" [] 0))) fun uL1 ux1 ud1 ll1 => ?_
        refine hCC ?_
        clear hCC
        generalize putN "kind" [] 0 = n1 at *
        have r1 := refKey_put "kind" (PyData.keyHash c.w.params "kind") t1 kv [] rfl
        have len1 : (putL "kind" (PyData.keyHash c.w.params "kind") (.str "kind" t1) kv []).length = 1 := rfl
        have g1 := getL_put "kind" (PyData.keyHash c.w.params "kind") t1 kv []
        have f1 : ∀ x : Str, "kind" ≠ x → getL x (putL "kind" (PyData.keyHash c.w.params "kind") (.str "kind" t1) kv []) = some none := fun x hx => getL_put_ne hx _ _ _ [] rfl
        generalize putL "kind" (PyData.keyHash c.w.params "kind") (.str "kind" t1) kv [] = es1 at *
        refine wpAny_execs_cons (init_step O hkd hs eL uL1 m1 ux1 ud1 (by simp) r1 (by omega) (named _ _ _ iv _ uL1 hki m3 (by decide)) rfl hU1 fun h2 tk2 t2 hU2 => ?_)
        refine Classical.byContradiction fun hCC => ?_
        refine xa_0_4 (go uL1 ux1 ud1 (dictOf (putL "items" (PyData.keyHash c.w.params "items") (.str "items" t2) iv es1) (putN "items" es1 n1))) fun uL2 ux2 ud2 ll2 => ?_
        refine hCC ?_
        clear hCC
        generalize putN "items" es1 n1 = n2 at *
        have r2 := refKey_put "items" (PyData.keyHash c.w.params "items") t2 iv es1 r1
        have len2 : (putL "items" (PyData.keyHash c.w.params "items") (.str "items" t2) iv es1).length = 2 := by rw [putL_length, hasnt_of_get (f1 _ (by decide)), len1]; rfl
        have g2 := getL_put "items" (PyData.keyHash c.w.params "items") t2 iv es1
        have f2 : ∀ x : Str, "items" ≠ x → getL x (putL "items" (PyData.keyHash c.w.params "items") (.str "items" t2) iv es1) = getL x es1 := fun x hx => getL_put_ne hx _ _ _ es1 r1
        generalize putL "items" (PyData.keyHash c.w.params "items") (.str "items" t2) iv es1 = es2 at *
        refine wpAny_execs_cons (init_step O hkd hs eL uL2 m1 ux2 ud2 (by simp) r2 (by omega) (named _ _ _ av _ uL2 hka m4 (by decide)) rfl hU2 fun h3 tk3 t3 hU3 => ?_)
        refine Classical.byContradiction fun hCC => ?_
        refine xa_0_4 (go uL2 ux2 ud2 (dictOf (putL "attrs" (PyData.keyHash c.w.params "attrs") (.str "attrs" t3) av es2) (putN "attrs" es2 n2))) fun uL3 ux3 ud3 ll3 => ?_
        refine hCC ?_
        clear hCC
        generalize putN "attrs" es2 n2 = n3 at *
        have r3 := refKey_put "attrs" (PyData.keyHash c.w.params "attrs") t3 av es2 r2
        have len3 : (putL "attrs" (PyData.keyHash c.w.params "attrs") (.str "attrs" t3) av es2).length = 3 := by rw [putL_length, hasnt_of_get ((f2 _ (by decide)).trans (f1 _ (by decide))), len2]; rfl
        have g3 := getL_put "attrs" (PyData.keyHash c.w.params "attrs") t3 av es2
        have f3 : ∀ x : Str, "attrs" ≠ x → getL x (putL "attrs" (PyData.keyHash c.w.params "attrs") (.str "attrs" t3) av es2) = getL x es2 := fun x hx => getL_put_ne hx _ _ _ es2 r2
        generalize putL "attrs" (PyData.keyHash c.w.params "attrs") (.str "attrs" t3) av es2 = es3 at *
        have cst : ∀ (A' : Around) (U : View) (b : Bool) (k : _) (p : Pos) (s : Shared) (E Q : Value → Shared → Prop), Vw c U s.heap → (∀ tk, Q (.bool b) { s with toks := tk }) → wpAny c.M A' (eval (.Constant (.bool b) k p) env) Q E s :=
          fun A' U b k p s E Q _ hQ => wpAny_Constant_bool (hQ s.toks)
        refine wpAny_execs_cons (init_step O hkd hs eL uL3 m1 ux3 ud3 (by simp) r3 (by omega) (cst _ _ _ _ _) rfl hU3 fun h4 tk4 t4 hU4 => ?_)
        refine Classical.byContradiction fun hCC => ?_
        refine xa_0_4 (go uL3 ux3 ud3 (dictOf (putL "shared" (PyData.keyHash c.w.params "shared") (.str "shared" t4) (.bool b4) es3) (putN "shared" es3 n3))) fun uL4 ux4 ud4 ll4 => ?_
        refine hCC ?_
        clear hCC
        generalize putN "shared" es3 n3 = n4 at *
        have r4 := refKey_put "shared" (PyData.keyHash c.w.params "shared") t4 (.bool b4) es3 r3
        have len4 : (putL "shared" (PyData.keyHash c.w.params "shared") (.str "shared" t4) (.bool b4) es3).length = 4 := by rw [putL_length, hasnt_of_get ((f3 _ (by decide)).trans ((f2 _ (by decide)).trans (f1 _ (by decide)))), len3]; rfl
        have g4 := getL_put "shared" (PyData.keyHash c.w.params "shared") t4 (.bool b4) es3
        have f4 : ∀ x : Str, "shared" ≠ x → getL x (putL "shared" (PyData.keyHash c.w.params "shared") (.str "shared" t4) (.bool b4) es3) = getL x es3 := fun x hx => getL_put_ne hx _ _ _ es3 r3
        generalize putL "shared" (PyData.keyHash c.w.params "shared") (.str "shared" t4) (.bool b4) es3 = es4 at *
        refine wpAny_execs_cons (init_step O hkd hs eL uL4 m1 ux4 ud4 (by simp) r4 (by omega) (cst _ _ _ _ _) rfl hU4 fun h5 tk5 t5 hU5 => ?_)
        refine Classical.byContradiction fun hCC => ?_
        refine xa_0_4 (go uL4 ux4 ud4 (dictOf (putL "loose" (PyData.keyHash c.w.params "loose") (.str "loose" t5) (.bool b5) es4) (putN "loose" es4 n4))) fun uL5 ux5 ud5 ll5 => ?_
        refine hCC ?_
        clear hCC
        generalize putN "loose" es4 n4 = n5 at *
        have len5 : (putL "loose" (PyData.keyHash c.w.params "loose") (.str "loose" t5) (.bool b5) es4).length = 5 := by rw [putL_length, hasnt_of_get ((f4 _ (by decide)).trans ((f3 _ (by decide)).trans ((f2 _ (by decide)).trans (f1 _ (by decide))))), len4]; rfl
        have f5 : ∀ x : Str, "loose" ≠ x → getL x (putL "loose" (PyData.keyHash c.w.params "loose") (.str "loose" t5) (.bool b5) es4) = getL x es4 := fun x hx => getL_put_ne hx _ _ _ es4 r4
        generalize putL "loose" (PyData.keyHash c.w.params "loose") (.str "loose" t5) (.bool b5) es4 = es5 at *
        refine wpAny_execs_nil ⟨rfl, ?_⟩
        refine hQ x dx es5 n5 h5 tk5 ⟨hU5.on.sub (ll5 (ll4 (ll3 (ll2 (ll1 l5))))), hV.st, hV.nsx⟩ vx vd hxd (hU5.on.frz ux5) (hU5.on.own ud5) ⟨es5, n5, rfl, ?_, ?_, ?_, ⟨b4, ?_⟩, len5⟩
        · rw [f5 _ (by decide), f4 _ (by decide), f3 _ (by decide), f2 _ (by decide)]; exact g1
        · rw [f5 _ (by decide), f4 _ (by decide), f3 _ (by decide)]; exact g2
        · rw [f5 _ (by decide), f4 _ (by decide)]; exact g3
        · rw [f5 _ (by decide)]; exact g4
  · exact ff_el k7
end
end Mine
end
section
open PySem PySem.W PySem.Calls PyProof.Rows PySem.Spec PySem.SeqAt
set_option genInjectivity false
set_option tactic.hygienic false
namespace Mine
section
variable {c : Cfg} {A : Around} {V V' : View} {F : Addr} {n : Nat} {G : Str → Option Value} {ct : Addr → List T → Option T} {env : Env} {kn : KN} {tbl : List (Option Str)} {σ : List LV}
theorem vOk_tbl {i : Nat} {y : Str} (h : vOk kn tbl i y = true) : tbl[i]? = some (some y) := by
  simp only [vOk, Bool.and_eq_true] at h
  exact eq_of_beq h.1.1
theorem asDl_rv {i : Nat} {lv : LV} {ks : List Str} {ls : List (List T)} (e : asDl lv = some (ks, ls)) {v : Value} (h : RV c V F i lv v) : RV c V F i (.owndl ks ls) v := by
  unfold asDl at e
  split at e
  · cases e; exact h
  · cases e
    refine Classical.byContradiction fun hCC => ?_
    refine xa_3_6 (h) fun a es n e q h1 h2 h3 h4 => ?_
    try clear h
    refine hCC ?_
    clear hCC
    exact ⟨a, es, n, e, q, h1, h2, h3, rfl, fun j l hl => by exact none_el hl⟩
  · exact none_el e
theorem EC.undef {i : Nat} (h : EC c V F env tbl σ) : EC c V F env tbl (σ.set i .undef) := ⟨by rw [List.length_set]; exact h.len, fun j x lv a b d => by
  by_cases hj : j = i
  · subst hj
    have hlt : j < σ.length := by rw [h.len]; exact (List.getElem?_eq_some_iff.mp a).1
    rw [List.getElem?_set_self hlt] at b
    (refine some_el b fun qq => ?_; subst qq; clear b); exact absurd rfl d
  · rw [List.getElem?_set_ne (Ne.symm hj)] at b
    exact h.at_ j x lv a b d⟩
theorem valueAt_zip {key : Str} {v : Value} : ∀ {ks : List Str} {ws : List Value}, valueAt (ks.zip ws) key = some v → ∃ j : Nat, ks[j]? = some key ∧ ws[j]? = some v
  | [], _, h => by exact none_el h
  | _ :: _, [], h => by exact none_el h
  | k :: ks, w :: ws, h => by
    unfold valueAt at h
    rw [List.zip_cons_cons, List.find?_cons] at h
    by_cases hk : k = key
    · subst hk
      simp only [decide_true, Option.map_some, Option.some.injEq] at h
      exact ⟨0, rfl, by rw [← h]; rfl⟩
    · simp only [hk, decide_false] at h
      refine xa_1_2 (valueAt_zip (ks := ks) (ws := ws) h) fun j a b => ?_
      exact ⟨j + 1, by simpa using a, by simpa using b⟩
theorem valueAt_zip_none {key : Str} : ∀ {ks : List Str} {ws : List Value}, ks.length = ws.length → valueAt (ks.zip ws) key = none → ks.contains key = false
  | [], _, _, _ => rfl
  | _ :: _, [], h, _ => by cases h
  | k :: ks, w :: ws, hl, h => by
    unfold valueAt at h
    rw [List.zip_cons_cons, List.find?_cons] at h
    by_cases hk : k = key
    · subst hk
      simp at h
    · simp only [hk, decide_false] at h
      have := valueAt_zip_none (ks := ks) (ws := ws) (by simpa using hl) h
      have hk' : ¬ key = k := fun e => hk e.symm
      rw [List.contains_cons, this]; simp [hk']
theorem contains_get {key : Str} {ks : List Str} {j : Nat} (h : ks[j]? = some key) : ks.contains key = true := by
  rw [List.contains_iff_mem]; exact List.mem_of_getElem? h
theorem appAt_length : ∀ (ks : List Str) (ls : List (List T)) (x : Str) (u : T), (appAt ks ls x u).length = ls.length
  | [], _, _, _ => rfl
  | _ :: _, [], _, _ => rfl
  | k :: ks, l :: ls, x, u => by
    unfold appAt
    split
    · rfl
    · rw [List.length_cons, List.length_cons, appAt_length]
theorem appAt_get {x : Str} {u : T} : ∀ {ks : List Str} {ls : List (List T)} {j j' : Nat} {l' : List T}, ks.Nodup → ks[j]? = some x → (appAt ks ls x u)[j']? = some l' → (j' = j ∧ ∃ l, ls[j]? = some l ∧ l' = l ++ [u]) ∨ (j' ≠ j ∧ ls[j']? = some l')
  | [], _, _, _, _, _, h, _ => by exact none_el h
  | _ :: _, [], _, _, _, _, _, h => by exact none_el h
  | k :: ks, l :: ls, j, j', l', hn, h, h' => by
    rw [List.nodup_cons] at hn
    unfold appAt at h'
    by_cases hk : k = x
    · subst hk
      rw [if_pos rfl] at h'
      have hj : j = 0 := by
        cases j with
        | zero => rfl
        | succ j => exact absurd (List.mem_of_getElem? (by simpa using h)) hn.1
      subst hj
      cases j' with
      | zero => left; (refine some_el h' fun qq => ?_; subst qq; clear h'); exact ⟨rfl, l, rfl, rfl⟩
      | succ j' => right; exact ⟨by omega, by simpa using h'⟩
    · rw [if_neg hk] at h'
      cases j with
      | zero => (refine some_el h fun qq => ?_; subst qq; clear h); exact absurd rfl hk
      | succ j =>
        cases j' with
        | zero => right; exact ⟨by omega, by simpa using h'⟩
        | succ j' =>
          rcases appAt_get (j := j) (j' := j') hn.2 (by simpa using h) (by simpa using h') with ⟨a, l₀, b, d⟩ | ⟨a, b⟩
          · left; exact ⟨by omega, l₀, by simpa using b, d⟩
          · right; exact ⟨by omega, by simpa using b⟩
theorem appAt_snoc {x : Str} {u : T} : ∀ {ks : List Str} {ls : List (List T)}, ks.contains x = false → ks.length = ls.length → appAt (ks ++ [x]) (ls ++ [[]]) x u = ls ++ [[u]]
  | [], [], _, _ => by show (if x = x then _ else _) = _; rw [if_pos rfl]; rfl
  | [], _ :: _, _, h => by cases h
  | _ :: _, [], _, h => by cases h
  | k :: ks, l :: ls, hc, hl => by
    rw [List.contains_cons, Bool.or_eq_false_iff] at hc
    have hk : ¬ k = x := by rintro rfl; simp at hc
    show (if k = x then _ else l :: appAt (ks ++ [x]) (ls ++ [[]]) x u) = _
    rw [if_neg hk, appAt_snoc hc.2 (by simpa using hl)]; rfl
set_option tactic.hygienic true in
theorem setd_ok (H : Hyp c A n G ct) (Eo : EOk env kn) (sc : SC c V F env kn tbl σ) {i : Nat} {k e : ME} {x : Stmt} {lv lv' : LV} {kk t : T} (hm : s_setd kn tbl i (mE G k kn tbl) (mE G e kn tbl) x = true) (hs : σ[i]? = some lv) (hk : ev ct false (σ.set i .undef) k = some kk) (he : ev ct false (σ.set i .undef) e = some t) (hp : setdV lv kk t = some lv') :
    GivesS c A V F env kn tbl (exec x env) (.nxt (σ.set i lv')) := by
  refine s_setd_el hm fun y q nm' ap' ke lp p' nm ap v p pp ex hm2 => ?_
  clear hm; subst ex; replace hm := hm2; clear hm2
  · simp only [Bool.and_eq_true, Bool.not_eq_true'] at hm
    refine Classical.byContradiction fun hCC => ?_
    refine ya_9 (hm) fun m1 m2 m3 m4 m5 m6 m7 m8 m9 => ?_
    try clear hm
    refine hCC ?_
    clear hCC
    have m2 := eq_of_beq m2; subst m2
    have m3 := eq_of_beq m3; subst m3
    have hx := vOk_tbl m1
    have hi := sc.idx hx
    have hdb : (y == ("__debug__" : Str)) = false := by
      simp only [vOk, Bool.and_eq_true] at m1
      exact ne_of_bne m1.2
    unfold setdV at hp
    split at hp
    · rename_i ks ls key hdl
      split at hp
      · rename_i hsm
        obtain ⟨hks, hls⟩ := hsm
        have hls' : ∀ (j : Nat) l, ls[j]? = some l → l.length < 1000 := fun j l hj => by
          have := List.all_eq_true.mp hls l (List.mem_of_getElem? hj)
          exact of_decide_eq_true this
        have hu : lv ≠ .undef := by rintro rfl; exact none_el hdl
        have sc0 : SC c V F env kn tbl (σ.set i (.owndl ks ls)) := sc.own hi (fun a cl e _ => e) (fun a cl e _ => e) (fun _ v _ _ hv => asDl_rv hdl hv) hs hu
        have hilt : i < σ.length := (List.getElem?_eq_some_iff.mp hs).1
        have hs0 : (σ.set i (.owndl ks ls))[i]? = some (.owndl ks ls) := List.getElem?_set_self hilt
        obtain ⟨_, n0, a, es, m, rfl, a1, a2, a3, a4, a5, a6⟩ := sc0.ec.at_ i y _ hx hs0 (by intro h; cases h)
        have hlen : ks.length = (es.map (·.val)).length := by rw [List.length_map, a3.length]
        have hlim := lim_line
        have hlv : lim = 1048576 := rfl
        intro s E Q hV hQ
        -- the append, at last
        have fin : ∀ (U : View) (hp : Heap) (tk : Nat) (ks1 : List Str) (ls1 : List (List T)) (es1 : List DictEntry) (n1 j : Nat) (b : Addr) (lj : List T) (vs : List Value) (m1 : Nat), VLeS F V U → Vw c U hp → SC c U F env kn tbl (σ.set i (.owndl ks1 ls1)) →
            NameAt U F env i y (.ref a) → U a = some (.own F i (dictOf es1 n1)) → KeysAre c.w es1 ks1 → ks1.Nodup → ks1.length = ls1.length →
            (∀ (j : Nat) l, ls1[j]? = some l → ∃ b vs m, (es1.map (·.val))[j]? = some (.ref b) ∧ U b = some (.own F (i + 1000 * (j + 1)) (lstO vs m)) ∧ IsL c U l vs) →
            ks1[j]? = some key → ls1[j]? = some lj → lj.length < 1000 → (es1.map (·.val))[j]? = some (.ref b) → U b = some (.own F (i + 1000 * (j + 1)) (lstO vs m1)) → IsL c U lj vs → lv' = .owndl ks1 (appAt ks1 ls1 key t) →
            MethodOnS c.prog c.w A E ("append" : Str) (.ref b) p (backTo p (starEach [v] env)) (fun _ => Q .next) { s with heap := hp, toks := tk } := by
          intro U hp tk ks1 ls1 es1 n1 j b lj vs m1 lU hU scU nU b1 b2 b3 b4 b5 b6 b7 b8 b9 b10 b11 b12
          have hbg := hU.on.own b10
          refine ⟨"list", "list.append", PySem.F.plainAttrs_list, PySem.F.slot_list_append, PySem.F.type_list_append, ⟨_, hbg, rfl⟩, fun x e => by cases e; exact ⟨_, hbg, rfl⟩, ?_⟩
          have star1 : ∀ a ∈ [v], ∀ e p, a ≠ .Starred e p := fun a ha e p => by
            rcases List.mem_cons.mp ha with rfl | ha
            · exact notStar m7 e p
            · cases ha
          refine callWith_raw (first := [Value.ref b]) (R := fun V' us => IsL c V' [t] us) rfl star1 (fun h hV => ⟨_, .inr (.inl rfl), keeper_builtin (by intro a h; cases h)⟩) ?_ hU ?_
          · intro s E Q hV hQ
            have ec : EC c U F env tbl (σ.set i .undef) := by
              have := scU.ec.undef (i := i)
              rwa [List.set_set] at this
            exact wpAny_items_cons ((ev_ok H e false _ kn tbl v t env U m9 he Eo ec).f s E _ hV fun w V1 hp1 tk1 l1 hV1 r1 => wpAny_items_nil (hQ _ V1 hp1 tk1 l1 hV1 (.one r1))) (star_cons (notStar m7))
          · intro U3 us h3 tk3 l3 hU3 hus
            refine Classical.byContradiction fun hCC => ?_
            refine xa_2_3 (hus) fun w _ rq0 hw rq1 => ?_
            try clear hus
            subst rq0
            subst rq1
            refine hCC ?_
            clear hCC
            show wpAny c.M A (call (.builtin "list.append") [.ref b, w]) _ _ _
            refine wpAny_list_append_plain (items := vs.toArray) ⟨m1, hU3.on.own (l3 _ _ b10)⟩ (fun h₆ hp₆ hs₆ => ?_) (by rw [List.size_toArray, b11.length]; omega)
            obtain ⟨k', hk'⟩ := hp₆
            have hba : b ≠ a := by rintro rfl; rw [b10] at b1; injection b1 with b1; injection b1 with _ q1 _; omega
            have hl3 := l3 _ _ b10
            have lf : VLeF U (U3.set b (.own F (i + 1000 * (j + 1)) (lstO (vs ++ [w]) k'))) := l3.toF.trans (VLeF.set hl3 rfl)
            obtain ⟨g1, g2, g3⟩ := own_step (lv₀ := .owndl ks1 ls1) (lv := .owndl ks1 (appAt ks1 ls1 key t)) (k := i + 1000 * (j + 1)) (o := lstO (vs ++ [w]) k') (scU.mono l3) hU3 (List.getElem?_set_self hilt) (by intro h; cases h) hx (nU.mono l3) hl3 (by rw [Nat.add_mul_mod_self_left]; exact Nat.mod_eq_of_lt hi) hs₆.extBut (by rw [hk']; simp)
              ⟨a, es1, n1, rfl, a1, by rw [View.set_ne _ _ (Ne.symm hba)]; exact l3 _ _ b1, b2, b3, by rw [appAt_length]; exact b4, fun j' l' hl' => by
                rcases appAt_get b3 b6 hl' with ⟨rfl, l₀, q1, q2⟩ | ⟨q1, q2⟩
                · rw [b7] at q1; (refine some_el q1 fun qq => ?_; subst qq; clear q1)
                  subst q2
                  exact ⟨b, vs ++ [w], k', b9, View.set_self .., (b11.mono lf).append (.one (Is.mono (VLeF.set hl3 rfl) _ _ hw))⟩
                · obtain ⟨b', vs', m', c1, c2, c3⟩ := b5 j' l' q2
                  refine ⟨b', vs', m', c1, ?_, c3.mono lf⟩
                  rw [View.set_ne]; exact l3 _ _ c2
                  rintro rfl
                  rw [b10] at c2; injection c2 with c2; injection c2 with _ c2 _; omega⟩
            rw [List.set_set] at g3
            rw [← b12] at g3
            exact hQ .next _ h₆ _ (lU.trans (l3.toS.trans g1)) g2 ⟨rfl, g3⟩
        refine wpAny_Expr_any ?_ (quiet Eo) rfl
        refine wpAny_Call_method_lateS rfl ?_ m5 ?_
        · rw [star_all (fun a ha e p => by
            rcases List.mem_cons.mp ha with rfl | ha
            · exact notStar m7 e p
            · cases ha)]; rfl
        have star2 : ∀ a ∈ [ke, Expr.List [] lp], ∀ e p, a ≠ .Starred e p := fun a ha e p => by
          rcases List.mem_cons.mp ha with rfl | ha
          · exact notStar m6 e p
          · rcases List.mem_cons.mp ha with rfl | ha
            · intro h; cases h
            · cases ha
        refine wpAny_Call_method_lateS rfl (by rw [star_all star2]; rfl) m4 ?_
        refine name_gives (R := fun V' w => VLe V V' ∧ w = .ref a) Eo n0 hdb q ⟨VLe.refl V, rfl⟩ s E _ hV fun w V1 hp1 tk1 l1 hV1 rw => ?_
        obtain ⟨_, rfl⟩ := rw
        have hag := hV1.on.own (l1 _ _ a2)
        refine ⟨"dict", "dict.setdefault", PySem.F.plainAttrs_dict, PySem.F.slot_dict_setdefault, PySem.F.type_dict_setdefault, ⟨_, hag, rfl⟩, fun x e => by cases e; exact ⟨_, hag, rfl⟩, ?_⟩
        refine callWith_raw (first := [Value.ref a]) (R := fun V' us => ∃ u b m, us = [u, .ref b] ∧ Is c V' (.str key) u ∧ V' b = some (.own F (i + 1000 * (ks.length + 1)) (lstO [] m))) rfl star2 (fun h hV => ⟨_, .inr (.inl rfl), keeper_builtin (by intro a h; cases h)⟩) ?_ hV1 ?_
        · intro s E Q hV hQ
          have ec : EC c V F env tbl (σ.set i .undef) := sc.ec.undef
          refine wpAny_items_cons ((ev_ok H k false _ kn tbl ke _ env V1 m8 hk Eo (ec.mono l1)).f s E _ hV fun w V2 hp2 tk2 l2 hV2 r2 => ?_) (star_cons (notStar m6))
          refine wpAny_items_cons (list_fresh (fun V ec => evL_ok H [] false (σ.set i .undef) kn tbl [] [] env V lp rfl rfl Eo ec) (Nat.zero_le _) (ec.mono (l1.trans l2)) _ E _ hV2 fun b vs m3 V3 hp3 tk3 l3 hV3 hn hg hi => wpAny_items_nil ?_) rfl
          rw [show vs = [] from hi] at hg
          exact hQ _ (V3.set b (.own F (i + 1000 * (ks.length + 1)) (lstO [] m3))) hp3 tk3 ((l2.trans l3).trans (VLe.set hn)) (hV3.add hn hg rfl) ⟨w, b, m3, rfl, Is.mono (l3.trans (VLe.set hn)).toF _ _ r2, View.set_self ..⟩
        · intro V2 us hp2 tk2 l2 hV2 hus
          refine Classical.byContradiction fun hCC => ?_
          obtain ⟨u, b, m3, rfl, ⟨tk', rfl⟩, hb⟩ := hus
          refine hCC ?_
          clear hCC
          have l12 := l1.trans l2
          have hag2 := hV2.on.own (l12 _ _ a2)
          refine call_meetsIn PySem.F.slot_dict_setdefault ⟨_, hag2, rfl⟩ PySem.F.entry_dict_setdefault (PySem.F.args_dict_setdefault_3 _ _ _) (kt_meets_setdefault (PySem.strKind c.prog c.w) (k := key) a (strKind_is _ _ key _) a1 (.ref b))
            ⟨ks.zip (es.map (·.val)), dictOf_at hag2 a3 a4, by rw [List.length_zip, ← hlen, Nat.min_self]; omega, fun v' hv' => ?_, fun hn' h' hd' hs' => ?_⟩
          · obtain ⟨j, j1, j2⟩ := valueAt_zip hv'
            have hjl : j < ls.length := by rw [← a5]; exact (List.getElem?_eq_some_iff.mp j1).1
            refine Classical.byContradiction fun hCC => ?_
            refine xa_3_3 (a6 j ls[j] (by simp [hjl])) fun b' vs' m' c1 c2 c3 => ?_
            refine hCC ?_
            clear hCC
            rw [j2] at c1; (refine some_el c1 fun qq => ?_; subst qq; clear c1)
            have hcn := contains_get j1
            rw [if_pos hcn] at hp
            (refine some_el hp fun qq => ?_; subst qq; clear hp)
            exact fin V2 hp2 _ ks ls es m j b' ls[j] vs' m' l12.toS hV2 (sc0.mono l12) (n0.mono l12) (l12 _ _ a2) a3 a4 a5 (fun j l hl => by
                refine Classical.byContradiction fun hCC => ?_
                refine xa_3_3 (a6 j l hl) fun b vs m g1 g2 g3 => ?_
                refine hCC ?_
                clear hCC
                exact ⟨b, vs, m, g1, l12 _ _ g2, g3.mono l12.toF⟩) j1 (by simp [hjl]) (hls' j _ (by simp [hjl])) j2 (l12 _ _ c2) (c3.mono l12.toF) rfl
          · have hcn := valueAt_zip_none hlen hn'
            rw [if_neg (by rw [hcn]; exact Bool.false_ne_true)] at hp
            (refine some_el hp fun qq => ?_; subst qq; clear hp)
            rw [stored_zip key _ a4 hlen, if_neg (by rw [hcn]; exact Bool.false_ne_true)] at hd'
            obtain ⟨es', n', g1, g2, g3⟩ := dictOf_shape (by rw [List.length_append, List.length_append, hlen]; rfl) hd'
            have hba : b ≠ a := by
              rintro rfl
              have := l12 _ _ a2
              rw [hb] at this; injection this with this; injection this with _ q1 _; omega
            have lf : VLeF V2 (V2.set a (.own F i (dictOf es' n'))) := VLeF.set (l12 _ _ a2) rfl
            have inner : ∀ (j : Nat) l, (ls ++ [[]])[j]? = some l → ∃ b vs m, (es'.map (·.val))[j]? = some (.ref b) ∧ (V2.set a (.own F i (dictOf es' n'))) b = some (.own F (i + 1000 * (j + 1)) (lstO vs m)) ∧ IsL c (V2.set a (.own F i (dictOf es' n'))) l vs := by
              intro j l hl
              rw [g3]
              by_cases hj : j < ls.length
              · rw [List.getElem?_append_left hj] at hl
                refine Classical.byContradiction fun hCC => ?_
                refine xa_3_3 (a6 j l hl) fun b' vs' m' c1 c2 c3 => ?_
                refine hCC ?_
                clear hCC
                refine ⟨b', vs', m', ?_, ?_, (c3.mono l12.toF).mono lf⟩
                · rw [List.getElem?_append_left (by rw [← hlen, a5]; exact hj)]; exact c1
                · rw [View.set_ne]; exact l12 _ _ c2
                  rintro rfl
                  rw [a2] at c2; injection c2 with c2; injection c2 with _ q1 _; omega
              · rw [List.getElem?_append_right (by omega)] at hl
                have hj0 : j - ls.length = 0 := by
                  cases hh : j - ls.length with
                  | zero => rfl
                  | succ z => rw [hh] at hl; exact none_el hl
                rw [hj0] at hl; (refine some_el hl fun qq => ?_; subst qq; clear hl)
                have hje : j = ks.length := by omega
                subst hje
                refine ⟨b, [], m3, ?_, ?_, rfl⟩
                · rw [List.getElem?_append_right (by rw [hlen]; exact Nat.le_refl _), hlen, Nat.sub_self]; rfl
                · rw [View.set_ne _ _ hba]; exact hb
            have hnd := nodup_snoc a4 hcn
            have hll : (ks ++ [key]).length = (ls ++ [[]]).length := by rw [List.length_append, List.length_append, a5]; rfl
            obtain ⟨o1, o2, o3⟩ := own_step (lv₀ := .owndl ks ls) (lv := .owndl (ks ++ [key]) (ls ++ [[]])) (k := i) (o := dictOf es' n') (sc0.mono l12) hV2 hs0 (by intro h; cases h) hx (n0.mono l12) (l12 _ _ a2) (Nat.mod_eq_of_lt hi) hs'.extBut g1
              ⟨a, es', n', rfl, a1, View.set_self .., g2, hnd, hll, inner⟩
            rw [List.set_set] at o3
            have nU : NameAt (V2.set a (.own F i (dictOf es' n'))) F env i y (.ref a) := by
              rcases n0.mono l12 with ⟨q1, H', mm, q2, q3⟩ | ⟨q1, a', q2, q3⟩
              · exact .inl ⟨q1, H', mm, by rw [View.set_ne]; exact q2; (intro e; rw [e, l12 _ _ a2] at q2; cases q2), q3⟩
              · exact .inr ⟨q1, a', q2, by rw [View.set_ne]; exact q3; (intro e; rw [e, l12 _ _ a2] at q3; cases q3)⟩
            obtain ⟨b', vs', m', c1, c2, c3⟩ := inner ks.length [] (by rw [a5, List.getElem?_append_right (Nat.le_refl _), Nat.sub_self]; rfl)
            have hbv : (es'.map (·.val))[ks.length]? = some (.ref b) := by
              rw [g3, List.getElem?_append_right (by rw [hlen]; exact Nat.le_refl _), hlen, Nat.sub_self]; rfl
            refine fin _ h' _ (ks ++ [key]) (ls ++ [[]]) es' n' ks.length b [] [] m3 (l12.toS.trans o1) o2 o3 nU (View.set_self ..) g2 hnd hll inner ?_ ?_ (by decide) hbv (by rw [View.set_ne _ _ hba]; exact hb) rfl (by rw [appAt_snoc hcn a5])
            · rw [List.getElem?_append_right (Nat.le_refl _), Nat.sub_self]; rfl
            · rw [a5, List.getElem?_append_right (Nat.le_refl _), Nat.sub_self]; rfl
      · exact none_el hp
    · exact none_el hp
theorem shr_ok (H : Hyp c A n G ct) (Eo : EOk env kn) (sc : SC c V F env kn tbl σ) {i : Nat} {x : Stmt} {k j a : T} (hm : s_shr kn tbl i x = true) (hs : σ[i]? = some (.frz (.vec k j a))) : GivesS c A V F env kn tbl (exec x env) (.nxt σ) := by
  refine s_shr_el hm fun y q nm q' kk p' p ex hm2 => ?_
  clear hm; subst ex; replace hm := hm2; clear hm2
  · obtain ⟨h1, h2⟩ := Bool.and_eq_true_iff.mp hm
    have h2 := eq_of_beq h2; subst h2
    have hdb : (y == ("__debug__" : Str)) = false := by
      simp only [vOk, Bool.and_eq_true] at h1
      exact ne_of_bne h1.2
    obtain ⟨w, r1, xx, dx, kv, iv, av, rfl, a1, a2, _⟩ := sc.ec.at_ i y _ (vOk_tbl h1) hs (by intro h; cases h)
    intro s E Q hV hQ
    refine plainObj_wpAny_Assign_Attribute (wpAny_Constant_bool ?_) rfl
    refine name_gives (R := fun V' w => VLe V V' ∧ w = .ref xx) Eo r1 hdb q ⟨VLe.refl V, rfl⟩ _ E _ hV fun w V2 hp2 tk2 l2 hV2 rw => ?_
    refine Classical.byContradiction fun hCC => ?_
    obtain ⟨_, rfl⟩ := rw
    refine xa_1_2 (hV2.on dx _ (l2 _ _ a2)) fun o ho hvd => ?_
    obtain ⟨es, m, rfl, g1, g2, g3, ⟨b, g4⟩, g5⟩ := id hvd
    refine hCC ?_
    clear hCC
    refine set_vec H.v (s := { s with heap := hp2, toks := tk2 }) hV2 (hV2.on.frz (l2 _ _ a1)) ho (fun F m q => by rw [l2 _ _ a2] at q; cases q) (by simp) (by rw [g4]; rfl) rfl (by rw [putL_length]; split <;> omega) fun h' e1 e2 => ?_
    refine hQ .next V2 h' _ l2.toS ⟨fun b cl q => ?_, hV2.st, hV2.nsx⟩ ⟨rfl, sc.mono l2⟩
    by_cases hb : b = dx
    · subst hb
      rw [l2 _ _ a2] at q; (refine some_el q fun qq => ?_; subst qq; clear q)
      exact ⟨_, e1, vecDict_shared hvd⟩
    · exact e2 b cl hb q
theorem cut_it {l : List T} {i : Nat} (o : Option LV) (h : ownOf o = some l) : o = some (.own l) := by
  unfold ownOf at h
  split at h
  · (refine some_el h fun qq => ?_; subst qq; clear h); rfl
  · exact none_el h
theorem go_name {y : Str} {p : Pos} (I : Addr) (v : Value) {s : Shared} {E : Value → Shared → Prop} {Q : Unit → Shared → Prop} (h : Q () s) : wpAny c.M A (letOwnedTupleGo (.Name y p) (.ref I) v) Q E s := wpAny_pure h
set_option tactic.hygienic true in
theorem go_tuple {l : List Expr} {k : Nat} {p : Pos} (I : Addr) (v : Value) {s : Shared} {E : Value → Shared → Prop} {Q : Unit → Shared → Prop} (h : ∃ o, s.heap.get? I = some o ∧ ItCls o) (hQ : Q () s) : wpAny c.M A (letOwnedTupleGo (.Tuple l k p) (.ref I) v) Q E s := by
  refine xa_1_2 (h) fun o ho hc => ?_
  try clear h
  unfold letOwnedTupleGo
  dsimp only
  split
  · rename_i r a e
    cases e
    refine wpAny_bind (wpAny_load ho ?_)
    split
    · rename_i nm vs e1 e2
      have : (["enumerate", "zip", "dict_itemiterator", "dict_reverseitemiterator", "odict_iterator", "itertools.zip_longest", "itertools.pairwise"].contains nm) = false := by
        rcases hc with hc | hc <;> (rw [hc] at e1; cases e1; decide)
      rw [this]
      exact wpAny_pure hQ
    · exact wpAny_pure hQ
  · exact wpAny_pure hQ
set_option tactic.hygienic true
mutual
theorem ex_ok (H : Hyp c A n G ct) (Eo : EOk env kn) : ∀ (m : MS) (V : View) (σ : List LV) (x : Stmt) (o : Out), mS G kn tbl m x = true → ex ct m σ = some o → SC c V F env kn tbl σ → GivesS c A V F env kn tbl (exec x env) o
  | .asg i e, V, σ, x, o, hm, he, sc => by
    replace hm : s_asg kn tbl i (mE G e kn tbl) x = true := hm
    refine xa_1_2 (Option.bind_eq_some_iff.mp he) fun t ht q => ?_
    (refine some_el q fun qq => ?_; subst qq; clear q)
    refine s_asg_el hm fun y q v p ex hm2 => ?_
    clear hm; subst ex; replace hm := hm2; clear hm2
    · simp only [Bool.and_eq_true, Bool.not_eq_true'] at hm
      refine ya_3 (hm) fun h1 h2 h3 => ?_
      try clear hm
      exact asg_ok Eo sc h1 h2 (ev_ok H e false σ kn tbl _ t env V h3 ht Eo sc.ec).f
  | .asgF i e, V, σ, x, o, hm, he, sc => by
    replace hm : s_asgF kn tbl i (mE G e kn tbl) x = true := hm
    replace he : (match ev ct false σ e with | some (.list l) => some (Out.nxt (σ.set i (.own l))) | _ => none) = some o := he
    split at he
    · rename_i l ht; (refine some_el he fun qq => ?_; subst qq; clear he)
      refine s_asgF_el hm fun y q v p ex hm2 => ?_
      clear hm; subst ex; replace hm := hm2; clear hm2
      · simp only [Bool.and_eq_true] at hm
        refine ya_3 (hm) fun h1 h2 h3 => ?_
        try clear hm
        exact asgF_ok H Eo sc h1 h2 h3 ht
    · exact none_el he
  | .asgD i, V, σ, x, o, hm, he, sc => by
    replace hm : s_asgD kn tbl i x = true := hm
    (refine some_el he fun qq => ?_; subst qq; clear he)
    refine s_asgD_el hm fun y q r p ex hm2 => ?_
    clear hm; subst ex; replace hm := hm2; clear hm2
    · intro s E Q hV hQ
      have hDs : (s.heap.objs.size == sysModules) = false := by
        exact beq_eq_false_iff_ne.mpr (Nat.ne_of_gt (modules_low hV.lim))
      have hn := hV.on.fresh (Nat.le_refl _)
      have hV1 := hV.push (cl := .own F i (dictOf [] 0)) (o := { cls := .type "dict", data := .dict #[] }) rfl rfl
      exact wpAny_Assign_Name (wpAny_Dict_empty (store_gives Eo (sc.mono (VLe.set hn)) (lv := .ownd [] []) hm ⟨_, [], 0, rfl, hDs, View.set_self .., rfl, List.nodup_nil, rfl⟩ hV1 fun V2 h2 tk2 st hV2 sc2 =>
        hQ .next V2 h2 tk2 ((VLe.set hn).toS.trans st.leS) hV2 ⟨rfl, sc2⟩)) rfl
  | .unp is e, V, σ, x, o, hm, he, sc => by
    replace hm : s_unp kn tbl is (mE G e kn tbl) x = true := hm
    replace he : (match ev ct false σ e with | some (.tup ts) => (setAll σ is ts).map Out.nxt | _ => none) = some o := he
    split at he
    · rename_i ts ht
      refine xa_1_2 (Option.map_eq_some_iff.mp he) fun σ' hs q => ?_
      subst q
      refine s_unp_el hm fun l k tp v p ex hm2 => ?_
      clear hm; subst ex; replace hm := hm2; clear hm2
      · simp only [Bool.and_eq_true, Bool.not_eq_true'] at hm
        refine ya_3 (hm) fun h1 h2 h3 => ?_
        try clear hm
        have ih := (ev_ok H e false σ kn tbl v _ env V h3 ht Eo sc.ec).f
        intro s E Q hV hQ
        refine Assign_Tuple (ih s E _ hV fun w V1 hp1 tk1 l1 hV1 r1 => tuple_ok H.a Eo h1 hs (setAll_len hs) (sc.mono l1) r1 hV1 fun V2 hp2 tk2 l2 hV2 sc2 => hQ .next V2 hp2 tk2 (l1.toS.trans l2) hV2 ⟨rfl, sc2⟩) ?_ ?_
        · cases v <;> rfl
        · cases v <;> first | rfl | cases h2
    · exact none_el he
  | .aug i e, V, σ, x, o, hm, he, sc => by
    replace hm : s_aug kn tbl i (mE G e kn tbl) x = true := hm
    replace he : (match σ[i]?, ev ct false σ e with | some (.frz (.int a)), some (.int b) => some (Out.nxt (σ.set i (.frz (.int (a + b))))) | _, _ => none) = some o := he
    split at he
    · rename_i a b hs ht; (refine some_el he fun qq => ?_; subst qq; clear he)
      refine s_aug_el hm fun y q v p ex hm2 => ?_
      clear hm; subst ex; replace hm := hm2; clear hm2
      · obtain ⟨h1, h3⟩ := Bool.and_eq_true_iff.mp hm
        have hv := h1
        simp only [vOk, Bool.and_eq_true] at hv
        refine ya_3 (hv) fun hv1 hv2 hv3 => ?_
        try clear hv
        obtain ⟨w, r1, ⟨tk0, rfl⟩⟩ := sc.ec.at_ i y _ (eq_of_beq hv1) hs (by intro h; cases h)
        have ih := (ev_ok H e false σ kn tbl v _ env V h3 ht Eo sc.ec).f
        intro s E Q hV hQ
        refine wpAny_AugAssign_Name ?_
        have step : wpAny c.M A (eval v env) (fun v_1 s₂ => wpAny c.M A (inplaceOp .Add (.int a tk0) v_1) (fun r s₃ => wpAny c.M A (storeName env y r) (fun _ => Q .next) E s₃) E s₂) E s := by
          refine ih s E _ hV fun z V1 hp1 tk1 l1 hV1 r2 => ?_
          obtain ⟨tk2, rfl⟩ := r2
          refine AutoIntOps.iadd_0 ?_
          exact store_gives Eo (sc.mono l1) (lv := .frz (.int (a + b))) h1 ⟨_, rfl⟩ hV1 fun V2 h2 tk2 st hV2 sc2 => hQ .next V2 h2 tk2 (l1.toS.trans st.leS) hV2 ⟨rfl, sc2⟩
        rcases r1 with ⟨q1, G', m, q2, q3⟩ | ⟨q1, a', q2, q3⟩
        · exact wpAny_loadName_local Eo.kind q1 (hV.on.ns q2) q3 step
        · exact wpAny_loadName_cell Eo.kind q1 q2 (hV.on.cl q3) step
    · exact none_el he
  | .app i e, V, σ, x, o, hm, he, sc => by
    replace hm : s_call kn tbl i "append" (mL G [e] kn tbl) x = true := hm
    refine Classical.byContradiction fun hCC => ?_
    refine xa_1_2 (Option.bind_eq_some_iff.mp he) fun l hs he => ?_
    refine xa_1_2 (Option.bind_eq_some_iff.mp he) fun t ht he => ?_
    refine hCC ?_
    clear hCC
    have hs := cut_it (i := i) _ hs
    split at he
    · rename_i hlen; (refine some_el he fun qq => ?_; subst qq; clear he)
      refine s_call_el hm fun y q nm' ap as p pp ex hm2 => ?_
      clear hm; subst ex; replace hm := hm2; clear hm2
      · simp only [Bool.and_eq_true, decide_eq_true_eq] at hm
        refine Classical.byContradiction fun hCC => ?_
        refine ya_5 (hm) fun h1 h2 h3 h4 h5 => ?_
        try clear hm
        refine hCC ?_
        clear hCC
        have := eq_of_beq h2; subst this
        intro s E Q hV hQ
        refine own_call (R := fun V' us => IsL c V' [t] us) Eo sc h1 hs PySem.F.slot_list_append PySem.F.type_list_append h4 (mL_star h5) h3
          (fun V' l1 => (evL_ok H [e] false σ kn tbl _ [t] env V' _ h5 (by show (do let t ← ev ct false σ e; let ts ← some []; pure (t :: ts)) = _; rw [ht]; rfl) Eo (sc.ec.mono l1)).weak fun _ _ _ q => q.2 rfl) hV (fun h => by subst h; exact ff_el h5) ?_
        intro a vs k V1 us h' tk l1 hV1 hn ha hi hu
        refine Classical.byContradiction fun hCC => ?_
        refine xa_2_3 (hu) fun v _ rq0 hv rq1 => ?_
        try clear hu
        subst rq0
        subst rq1
        refine hCC ?_
        clear hCC
        have hv1 := vOk_tbl h1
        refine wpAny_list_append_plain (items := vs.toArray) ⟨k, hV1.on.own ha⟩ (fun h₆ hp₆ hs₆ => ?_) (by rw [List.size_toArray, hi.length]; have := lim_line; omega)
        obtain ⟨k', hk'⟩ := hp₆
        obtain ⟨V2, g1, g2, g3⟩ := list_step (l' := l ++ [t]) (vs' := vs ++ [v]) (k' := k') (sc.mono l1) hV1 hs hv1 hn ha hs₆.extBut (by rw [hk']; simp) (hi.append (.one hv))
        exact hQ .next V2 h₆ _ (l1.toS.trans g1) g2 ⟨rfl, g3⟩
    · exact none_el he
  | .ext i e, V, σ, x, o, hm, he, sc => by
    replace hm : s_call kn tbl i "extend" (mL G [e] kn tbl) x = true := hm
    refine xa_1_2 (Option.bind_eq_some_iff.mp he) fun l hs he => ?_
    have hs := cut_it (i := i) _ hs
    replace he : (match ev ct false σ e with | some (.list ts) => if l.length + ts.length < lim then some (Out.nxt (σ.set i (.own (l ++ ts)))) else none | _ => none) = some o := he
    split at he
    · rename_i ts ht
      split at he
      · rename_i hlen; (refine some_el he fun qq => ?_; subst qq; clear he)
        refine s_call_el hm fun y q nm' ap as p pp ex hm2 => ?_
        clear hm; subst ex; replace hm := hm2; clear hm2
        · simp only [Bool.and_eq_true, decide_eq_true_eq] at hm
          refine Classical.byContradiction fun hCC => ?_
          refine ya_5 (hm) fun h1 h2 h3 h4 h5 => ?_
          try clear hm
          refine hCC ?_
          clear hCC
          have := eq_of_beq h2; subst this
          intro s E Q hV hQ
          refine own_call (R := fun V' us => IsL c V' [.list ts] us) Eo sc h1 hs PySem.F.slot_list_extend PySem.F.type_list_extend h4 (mL_star h5) h3
            (fun V' l1 => (evL_ok H [e] false σ kn tbl _ [.list ts] env V' _ h5 (by show (do let t ← ev ct false σ e; let ts ← some []; pure (t :: ts)) = _; rw [ht]; rfl) Eo (sc.ec.mono l1)).weak fun _ _ _ q => q.2 rfl) hV (fun h => by subst h; exact ff_el h5) ?_
          intro a vs k V1 us h' tk l1 hV1 hn ha hi hu
          refine Classical.byContradiction fun hCC => ?_
          refine xa_2_3 (hu) fun v _ rq0 hv rq1 => ?_
          try clear hu
          subst rq0
          subst rq1
          refine xa_3_3 (hv) fun b ws j rq0 hb hj => ?_
          try clear hv
          subst rq0
          refine hCC ?_
          clear hCC
          have hv1 := vOk_tbl h1
          have hg := hV1.on.own ha
          have hsz : vs.toArray.size + ws.toArray.size ≤ lim := by rw [List.size_toArray, List.size_toArray, hi.length, hj.length]; omega
          have hll := lim_line
          refine call_meets PySem.F.slot_list_extend ⟨_, hg, rfl⟩ PySem.F.entry_list_extend (PySem.F.args_list_extend_2 _ _) (AutoSeq1.list_extend_list_list_0 a vs.toArray k b ws.toArray j ?_ (by omega) (by omega)) ⟨hg, hV1.on.frz hb, ?_⟩
          · have : Builtin.List.listTooLong (vs.toArray.size + ws.toArray.size) = false := by
              unfold Builtin.List.listTooLong; exact decide_eq_false (by omega)
            rw [this]; simp
          · have hgu := Heap.get?_update_self (Obj.mapSeq fun x => x ++ ws.toArray) hg (by rfl)
            obtain ⟨V2, g1, g2, g3⟩ := list_step (l' := l ++ ts) (vs' := vs ++ ws) (k' := if (vs.toArray ++ ws.toArray).size == vs.toArray.size then k else k + 1) (sc.mono l1) hV1 hs hv1 hn ha (Heap.SameBut.update ..).extBut (by rw [hgu]; simp [Obj.mapSeq]) (hi.append hj)
            exact hQ .next V2 _ _ (l1.toS.trans g1) g2 ⟨rfl, g3⟩
      · exact none_el he
    · exact none_el he
  | .rev i, V, σ, x, o, hm, he, sc => by
    replace hm : s_call kn tbl i "reverse" (mL G [] kn tbl) x = true := hm
    refine xa_1_2 (Option.bind_eq_some_iff.mp he) fun l hs he => ?_
    have hs := cut_it (i := i) _ hs
    split at he
    · rename_i hlen; (refine some_el he fun qq => ?_; subst qq; clear he)
      refine s_call_el hm fun y q nm' ap as p pp ex hm2 => ?_
      clear hm; subst ex; replace hm := hm2; clear hm2
      · simp only [Bool.and_eq_true, decide_eq_true_eq] at hm
        refine Classical.byContradiction fun hCC => ?_
        refine ya_5 (hm) fun h1 h2 h3 h4 h5 => ?_
        try clear hm
        refine hCC ?_
        clear hCC
        have := eq_of_beq h2; subst this
        have := mL_nil h5; subst this
        intro s E Q hV hQ
        refine own_call (R := fun V' us => us = []) Eo sc h1 hs PySem.F.slot_list_reverse PySem.F.type_list_reverse h4 (mL_star h5) h3
          (fun V' l1 s E Q hV hQ => wpAny_items_nil (hQ _ V' s.heap s.toks (VLe.refl V') hV rfl)) hV (fun _ _ => rfl) ?_
        intro a vs k V1 us h' tk l1 hV1 hn ha hi hu
        subst hu
        have hv1 := vOk_tbl h1
        have hg := hV1.on.own ha
        have hll := lim_line
        refine call_meets PySem.F.slot_list_reverse ⟨_, hg, rfl⟩ PySem.F.entry_list_reverse (PySem.F.args_list_reverse_1 _) (AutoSeq1.list_reverse_list_0 a vs.toArray k (by rw [List.size_toArray, hi.length]; omega)) ⟨hg, ?_⟩
        have hgu := Heap.get?_update_self (Obj.mapSeq fun x => x.reverse) hg (by rfl)
        obtain ⟨V2, g1, g2, g3⟩ := list_step (l' := l.reverse) (vs' := vs.reverse) (k' := k) (sc.mono l1) hV1 hs hv1 hn ha (Heap.SameBut.update ..).extBut (by rw [hgu]; simp [Obj.mapSeq]) hi.reverse
        exact hQ .next V2 _ _ (l1.toS.trans g1) g2 ⟨rfl, g3⟩
    · exact none_el he
  | .put i k e, V, σ, x, o, hm, he, sc => by
    replace hm : s_put kn tbl i (mE G k kn tbl) (mE G e kn tbl) x = true := hm
    refine Classical.byContradiction fun hCC => ?_
    refine xa_1_2 (Option.bind_eq_some_iff.mp he) fun lv hs he => ?_
    refine xa_1_2 (Option.bind_eq_some_iff.mp he) fun t ht he => ?_
    refine xa_1_2 (Option.bind_eq_some_iff.mp he) fun kk hk he => ?_
    refine xa_1_2 (Option.bind_eq_some_iff.mp he) fun lv' hp q => ?_
    refine hCC ?_
    clear hCC
    (refine some_el q fun qq => ?_; subst qq; clear q)
    refine s_put_el hm fun y q ix tp v p ex hm2 => ?_
    clear hm; subst ex; replace hm := hm2; clear hm2
    · simp only [Bool.and_eq_true, Bool.not_eq_true'] at hm
      refine Classical.byContradiction fun hCC => ?_
      refine ya_4 (hm) fun h1 h2 h3 h4 => ?_
      try clear hm
      refine hCC ?_
      clear hCC
      have hput : ∃ ks l key, lv = .ownd ks l ∧ kk = .str key ∧ ks.length < 1000 := by
        unfold putV at hp
        split at hp
        · split at hp
          · rename_i hlt; exact ⟨_, _, _, rfl, rfl, hlt⟩
          · exact none_el hp
        · exact none_el hp
      refine Classical.byContradiction fun hCC => ?_
      refine xa_3_3 (hput) fun ks l key rq0 rq1 hks => ?_
      try clear hput
      subst rq0
      subst rq1
      refine hCC ?_
      clear hCC
      have hdb : (y == ("__debug__" : Str)) = false := by
        simp only [vOk, Bool.and_eq_true] at h1
        exact ne_of_bne h1.2
      obtain ⟨w, r1, a, es, m, rfl, q0, r2, r3, r4, r5⟩ := sc.ec.at_ i y _ (vOk_tbl h1) hs (by intro h; cases h)
      intro s E Q hV hQ
      refine wpAny_Assign_Subscript ((ev_ok H e false σ kn tbl v t env V h4 ht Eo sc.ec).f s E _ hV fun z V1 hp1 tk1 l1 hV1 rz => ?_) (swaps_no h2)
      refine name_gives (R := fun V' w => VLe V1 V' ∧ w = .ref a) Eo (r1.mono l1) hdb q ⟨VLe.refl V1, rfl⟩ _ E _ hV1 fun w V2 hp2 tk2 l2 hV2 rw => ?_
      obtain ⟨_, rfl⟩ := rw
      have l12 := l1.trans l2
      refine (ev_ok H k false σ kn tbl ix _ env V2 h3 hk Eo (sc.ec.mono l12)).f _ E _ hV2 fun kv V3 hp3 tk3 l3 hV3 rk => ?_
      obtain ⟨tk', rfl⟩ := rk
      have l13 := l12.trans l3
      refine wpAny_setItem_pairs (knd := PySem.strKind c.prog c.w) (strKind_is _ _ key _) (dictOf_at (hV3.on.own (l13 _ _ r2)) r3 r4) (fun h' hd' hs' => ?_) ?_
      · obtain ⟨V4, g1, g2, g3⟩ := put_step (sc.mono l13) hV3 hs (vOk_tbl h1) (r1.mono l13) (l13 _ _ r2) q0 r3 r4 (IsL.mono l13.toF _ _ r5) (Is.mono (l2.trans l3).toF _ _ rz) hs' hd' hp
        exact hQ .next V4 h' _ (l13.toS.trans g1) g2 ⟨rfl, g3⟩
      · have := lim_line
        have hlim : lim = 1048576 := rfl
        rw [List.length_zip, List.length_map, ← r3.length, Nat.min_self]; omega
  | .setd i k e, V, σ, x, o, hm, he, sc => by
    refine Classical.byContradiction fun hCC => ?_
    refine xa_1_2 (Option.bind_eq_some_iff.mp he) fun lv hs he => ?_
    refine xa_1_2 (Option.bind_eq_some_iff.mp he) fun kk hk he => ?_
    refine xa_1_2 (Option.bind_eq_some_iff.mp he) fun t ht he => ?_
    refine xa_1_2 (Option.bind_eq_some_iff.mp he) fun lv' hp q => ?_
    refine hCC ?_
    clear hCC
    (refine some_el q fun qq => ?_; subst qq; clear q)
    exact setd_ok H Eo sc hm hs hk ht hp
  | .frz i, V, σ, x, o, hm, he, sc => by exact ff_el hm
  | .shr i, V, σ, x, o, hm, he, sc => by
    replace hm : s_shr kn tbl i x = true := hm
    replace he : (match σ[i]? with | some (.frz (.vec _ _ _)) => some (Out.nxt σ) | _ => none) = some o := he
    split at he
    · rename_i k j a hs; (refine some_el he fun qq => ?_; subst qq; clear he)
      exact shr_ok H Eo sc hm hs
    · exact none_el he
  | .newV i l, V, σ, x, o, hm, he, sc => by
    replace hm : s_newV kn tbl i (mL G l kn tbl) x = true := hm
    replace he : (match evL ct false σ l with | some [k, t] => some (Out.nxt (σ.set i (.ownv k t .none))) | _ => none) = some o := he
    split at he
    · rename_i k t hl; (refine some_el he fun qq => ?_; subst qq; clear he)
      refine s_newV_el hm fun y q z pz as p pp ex hm2 => ?_
      clear hm; subst ex; replace hm := hm2; clear hm2
      · simp only [Bool.and_eq_true, Bool.not_eq_true'] at hm
        refine Classical.byContradiction fun hCC => ?_
        refine ya_5 (hm) fun h1 h2 h3 h4 h5 => ?_
        try clear hm
        refine hCC ?_
        clear hCC
        have h2 := eq_of_beq h2; subst h2
        intro s E Q hV hQ
        refine wpAny_Assign_Name ?_ rfl
        show wpAny c.M A (do callWith p (← eval (.Name "Vector" pz) env) [] (backTo p (starEach as env)) (backToKw p (keywordEach [] env))) _ E s
        refine wpAny_bind (global_gives Eo h3 H.g.vc pz s E _ hV fun w V1 hp1 tk1 l1 hV1 r1 => ?_)
        subst r1
        refine callWith_raw (first := []) (R := fun V' vs => IsL c V' [k, t] vs) h4 (mL_star h5) (fun h hV => keeps_K H.g.vk h hV.K) ((evL_ok H l false σ kn tbl as [k, t] env V1 p h5 hl Eo (sc.ec.mono l1)).weak fun _ _ _ q => q.2 rfl) hV1 fun V2 vs hp2 tk2 l2 hV2 hvs => ?_
        refine Classical.byContradiction fun hCC => ?_
        obtain ⟨kv, _, rq0, hk, iv, _, rq1, hi, rq2⟩ := hvs
        try clear hvs
        subst rq0
        subst rq1
        subst rq2
        refine hCC ?_
        clear hCC
        refine vec_raw H.v H.ini (vs := [kv, iv]) (.inr ⟨rfl, rfl⟩) (by have := H.a.d; omega) hV2 fun x dx es n h' tk hV3 vx vd hxd gx gd hvd => ?_
        have hV4 := hV3.add (a := x) (cl := .frz (instObj c.VC dx)) vx gx rfl
        have vd' : (V2.set x (.frz (instObj c.VC dx))) dx = none := by rw [View.set_ne _ _ (Ne.symm hxd)]; exact vd
        have hV5 := hV4.add (a := dx) (cl := .own F i (dictOf es n)) vd' gd rfl
        have l5 := (VLe.set (c := .frz (instObj c.VC dx)) vx).trans (VLe.set (c := .own F i (dictOf es n)) vd')
        have l15 := (l1.trans l2).trans l5
        exact store_gives Eo (sc.mono l15) (lv := .ownv k t .none) h1 ⟨x, dx, kv, iv, .none, es, n, rfl, VLe.set vd' _ _ (View.set_self ..), View.set_self .., hvd, Is.mono l5.toF _ _ hk, Is.mono l5.toF _ _ hi, rfl⟩ hV5 fun V6 h6 tk6 st hV6 sc6 => hQ .next V6 h6 tk6 (l15.toS.trans st.leS) hV6 ⟨rfl, sc6⟩
    · exact none_el he
  | .setA i e, V, σ, x, o, hm, he, sc => by
    replace hm : s_setA kn tbl i (mE G e kn tbl) x = true := hm
    replace he : (match σ[i]?, ev ct false σ e with | some (.ownv k t _), some u => some (Out.nxt (σ.set i (.ownv k t u))) | _, _ => none) = some o := he
    split at he
    · rename_i k t a₀ u hs hu; (refine some_el he fun qq => ?_; subst qq; clear he)
      refine s_setA_el hm fun y q nm q' v p ex hm2 => ?_
      clear hm; subst ex; replace hm := hm2; clear hm2
      · simp only [Bool.and_eq_true, Bool.not_eq_true'] at hm
        refine Classical.byContradiction fun hCC => ?_
        refine ya_4 (hm) fun h1 h2 h3 h4 => ?_
        try clear hm
        refine hCC ?_
        clear hCC
        have h2 := eq_of_beq h2; subst h2
        have hdb : (y == ("__debug__" : Str)) = false := by
          simp only [vOk, Bool.and_eq_true] at h1
          exact ne_of_bne h1.2
        have hx := vOk_tbl h1
        obtain ⟨w, r1, xx, dx, kv, iv, tv, es, m, rfl, a1, a2, a3, a4, a5, a6⟩ := sc.ec.at_ i y _ hx hs (by intro h; cases h)
        refine Classical.byContradiction fun hCC => ?_
        refine xa_2_6 (id a3) fun es' n' e0 g1 g2 g3 g4 g5 => ?_
        refine hCC ?_
        clear hCC
        have ee : es = es' := by
          have := congrArg Obj.data e0
          injection this with this _
          simpa using this
        subst ee
        intro s E Q hV hQ
        refine plainObj_wpAny_Assign_Attribute ((ev_ok H e false σ kn tbl v u env V h4 hu Eo sc.ec).f s E _ hV fun z V1 hp1 tk1 l1 hV1 rz => ?_) (swaps_no h3)
        refine name_gives (R := fun V' w => VLe V1 V' ∧ w = .ref xx) Eo (r1.mono l1) hdb q ⟨VLe.refl V1, rfl⟩ _ E _ hV1 fun w V2 hp2 tk2 l2 hV2 rw => ?_
        obtain ⟨_, rfl⟩ := rw
        have l12 := l1.trans l2
        refine set_view H.v hV2 (l12 _ _ a1) (l12 _ _ a2) (by simp) (by rw [g3]; rfl) rfl (by rw [putL_length]; split <;> omega) fun h' tk' hV3 => ?_
        have hd2 := l12 _ _ a2
        generalize hes : putL "attrs" (PyData.keyHash c.w.params "attrs") (.str "attrs" _) z es = es2 at hV3
        generalize putN "attrs" es m = m2 at hV3
        have hvd : VecDict kv iv z (dictOf es2 m2) := by rw [← hes]; exact vecDict_attrs a3
        have lf : VLeF V2 (V2.set dx (.own F i (dictOf es2 m2))) := VLeF.set hd2 rfl
        have hyd : xx ≠ dx := by rintro rfl; rw [a1] at a2; cases a2
        refine hQ .next _ h' _ (l12.toS.trans (VLeS.set hd2 rfl)) hV3 ⟨rfl, (sc.mono l12).own (lv₀ := .ownv k t a₀) (sc.idx hx) (fun b cl q w => ?_) (fun b cl q w => ?_) (fun y' v hy' hn _ => ?_) hs (by intro h; cases h)⟩
        · rw [View.set_ne]; exact q
          rintro rfl; rw [hd2] at q; (refine some_el q fun qq => ?_; subst qq; clear q)
          rcases w with w | ⟨_, _, _, w, hp⟩
          · cases w
          · cases w; exact hp (Nat.mod_eq_of_lt (sc.idx hx))
        · rw [View.set_ne]; exact q
          rintro rfl; rw [hd2] at q; (refine some_el q fun qq => ?_; subst qq; clear q); exact w _ _ _ rfl
        · rw [hx] at hy'; cases hy'
          rw [name_fun hn (r1.mono l12)]
          exact ⟨xx, dx, kv, iv, z, es2, m2, rfl, by rw [View.set_ne _ _ hyd]; exact l12 _ _ a1, View.set_self .., hvd, Is.mono (l12.toF.trans lf) _ _ a4, Is.mono (l12.toF.trans lf) _ _ a5, Is.mono (l2.toF.trans lf) _ _ rz⟩
    · exact none_el he
  | .exp e, V, σ, x, o, hm, he, sc => by
    replace hm : s_exp (mE G e kn tbl) x = true := hm
    refine xa_1_2 (Option.bind_eq_some_iff.mp he) fun t ht q => ?_
    (refine some_el q fun qq => ?_; subst qq; clear q)
    refine s_exp_el hm fun v p ex hm2 => ?_
    clear hm; subst ex; replace hm := hm2; clear hm2
    · simp only [Bool.and_eq_true, Bool.not_eq_true'] at hm
      intro s E Q hV hQ
      exact wpAny_Expr_any ((ev_ok H e false σ kn tbl v t env V hm.2 ht Eo sc.ec).f s E _ hV fun w V1 h1 tk1 l1 hV1 r1 => hQ .next V1 h1 tk1 l1.toS hV1 ⟨rfl, sc.mono l1⟩) (quiet Eo) (swaps_no hm.1)
  | .asgK i nm f l, V, σ, x, o, hm, he, sc => by
    replace hm : s_asgK G kn tbl i nm f (mL G l kn tbl) x = true := hm
    refine xa_1_2 (Option.bind_eq_some_iff.mp he) fun ts hts he => ?_
    split at he
    · rename_i l' hl; (refine some_el he fun qq => ?_; subst qq; clear he)
      refine s_asgK_el hm fun y q z pz as p pp ex hm2 => ?_
      clear hm; subst ex; replace hm := hm2; clear hm2
      · simp only [Bool.and_eq_true, Bool.not_eq_true'] at hm
        refine Classical.byContradiction fun hCC => ?_
        refine ya_7 (hm) fun h1 h2 h3 h4 h5 h6 h7 => ?_
        try clear hm
        refine hCC ?_
        clear hCC
        have h2 := eq_of_beq h2; subst h2
        have h4 := eq_of_beq h4
        intro s E Q hV hQ
        refine wpAny_Assign_Name ?_ rfl
        show wpAny c.M A (do callWith p (← eval (.Name z pz) env) [] (backTo p (starEach as env)) (backToKw p (keywordEach [] env))) _ E s
        refine wpAny_bind (global_gives Eo h3 (H.g.gl _ _ h4) pz s E _ hV fun w V1 hp1 tk1 l1 hV1 r1 => ?_)
        subst r1
        refine callWith_raw (first := []) (R := fun V' vs => IsL c V' ts vs) h6 (mL_star h7) (fun h hV => keeps_K (H.g.kp _ _ h4) h hV.K) ((evL_ok H l false σ kn tbl as ts env V1 p h7 hts Eo (sc.ec.mono l1)).weak fun _ _ _ q => q.2 rfl) hV1 fun V2 vs hp2 tk2 l2 hV2 hvs => ?_
        refine H.fl f ts l' h5 hl A V2 vs H.a hvs _ E _ hV2 fun a us k V3 hp3 tk3 l3 hV3 hn hg hi => ?_
        refine xa_0_3 (own_new (F := F) (i := i) hV3 hn hg hi) fun l4 hV4 r4 => ?_
        have l14 := ((l1.trans l2).trans l3).trans l4
        exact store_gives Eo (sc.mono l14) h1 r4 hV4 fun V5 h5 tk5 st hV5 sc5 => hQ .next V5 h5 tk5 (l14.toS.trans st.leS) hV5 ⟨rfl, sc5⟩
    · exact none_el he
  | .retO i, V, σ, x, o, hm, he, sc => by
    replace hm : s_retO kn tbl i x = true := hm
    refine xa_1_2 (Option.bind_eq_some_iff.mp he) fun l hs q => ?_
    (refine some_el q fun qq => ?_; subst qq; clear q)
    have hs := cut_it (i := i) _ hs
    refine s_retO_el hm fun y q p ex hm2 => ?_
    clear hm; subst ex; replace hm := hm2; clear hm2
    · have hdb : (y == ("__debug__" : Str)) = false := by
        simp only [vOk, Bool.and_eq_true] at hm
        exact ne_of_bne hm.2
      obtain ⟨w, r1, a, vs, k, rfl, r2, r3⟩ := sc.ec.at_ i y _ (vOk_tbl hm) hs (by intro h; cases h)
      intro s E Q hV hQ
      refine wpAny_Return_some (name_gives (R := fun V' w => VLe V V' ∧ w = .ref a) Eo r1 hdb q ⟨VLe.refl V, rfl⟩ s E _ hV fun w V1 h1 tk1 l1 hV1 rw => ?_)
      obtain ⟨_, rfl⟩ := rw
      exact hQ (.ret (.ref a)) V1 h1 tk1 l1.toS hV1 ⟨a, vs, k, i, rfl, l1 _ _ r2, IsL.mono l1.toF _ _ r3⟩
  | .ret e, V, σ, x, o, hm, he, sc => by
    replace hm : s_ret (mE G e kn tbl) x = true := hm
    refine xa_1_2 (Option.bind_eq_some_iff.mp he) fun t ht q => ?_
    (refine some_el q fun qq => ?_; subst qq; clear q)
    refine s_ret_el hm fun v p ex hm2 => ?_
    clear hm; subst ex; replace hm := hm2; clear hm2
    · intro s E Q hV hQ
      exact wpAny_Return_some ((ev_ok H e false σ kn tbl _ t env V hm ht Eo sc.ec).f s E _ hV fun w V1 h1 tk1 l1 hV1 r1 => hQ (.ret w) V1 h1 tk1 l1.toS hV1 ⟨w, rfl, r1⟩)
  | .ite t a b, V, σ, x, o, hm, he, sc => by
    replace hm : s_ite (mE G t kn tbl) (mSs G kn tbl a) (mSs G kn tbl b) x = true := hm
    refine Classical.byContradiction fun hCC => ?_
    refine xa_1_2 (Option.bind_eq_some_iff.mp he) fun u hu he => ?_
    refine xa_1_2 (Option.bind_eq_some_iff.mp he) fun bb hb he => ?_
    refine hCC ?_
    clear hCC
    have := asB_some hb; subst this
    refine s_ite_el hm fun t' a' b' p ex hm2 => ?_
    clear hm; subst ex; replace hm := hm2; clear hm2
    · simp only [Bool.and_eq_true] at hm
      refine ya_3 (hm) fun h1 h2 h3 => ?_
      try clear hm
      have ih := (ev_ok H t false σ kn tbl _ _ env V h1 hu Eo sc.ec).2 bb rfl
      intro s E Q hV hQ
      refine wpAny_If (ih s E _ hV fun b' V1 hp1 tk1 l1 hV1 r1 => ?_)
      subst r1
      cases b' with
      | true => exact exs_ok H Eo a V1 σ _ o h2 he (sc.mono l1) _ E Q hV1 fun f V2 hp2 tk2 l2 hV2 hf => hQ f V2 hp2 tk2 (l1.toS.trans l2) hV2 hf
      | false => exact exs_ok H Eo b V1 σ _ o h3 he (sc.mono l1) _ E Q hV1 fun f V2 hp2 tk2 l2 hV2 hf => hQ f V2 hp2 tk2 (l1.toS.trans l2) hV2 hf
  | .forI i it b, V, σ, x, o, hm, he, sc => by
    replace hm : s_forI kn tbl i (mE G it kn tbl) (mSs G kn tbl b) x = true := hm
    refine Classical.byContradiction fun hCC => ?_
    refine xa_1_2 (Option.bind_eq_some_iff.mp he) fun u hu he => ?_
    refine xa_1_2 (Option.bind_eq_some_iff.mp he) fun items hit he => ?_
    refine hCC ?_
    clear hCC
    refine s_forI_el hm fun y q it' b' p ex hm2 => ?_
    clear hm; subst ex; replace hm := hm2; clear hm2
    · simp only [Bool.and_eq_true, Bool.not_eq_true'] at hm
      refine Classical.byContradiction fun hCC => ?_
      refine ya_4 (hm) fun h1 h2 h3 h4 => ?_
      try clear hm
      refine hCC ?_
      clear hCC
      refine for_block (NC := fun _ _ => False) (J := fun _ => True) H.a (fun _ _ _ _ _ _ q => q.elim) (fun _ _ _ _ => trivial) trivial (fun z => notSet h2 z env) ((ev_ok H it false σ kn tbl _ u env V h3 hu Eo sc.ec).f.weak fun _ _ _ q => .inl q) hit he sc (fun I v s E Q _ hq => go_name I v hq) ?_
      intro V1 σk t v o s E Q ho sk _ hi hV hQ
      exact wpAny_assign_Name (store_gives Eo sk (lv := .frz t) h1 hi hV fun V2 hp2 tk2 st hV2 sc2 => exs_ok H Eo b V2 _ _ o h4 ho sc2 _ E Q hV2 fun f V3 hp3 tk3 l3 hV3 hf => hQ f V3 hp3 tk3 (st.leS.trans l3) hV3 trivial hf)
  | .forU is it b, V, σ, x, o, hm, he, sc => by
    replace hm : s_forU kn tbl is (mE G it kn tbl) (mSs G kn tbl b) x = true := hm
    refine Classical.byContradiction fun hCC => ?_
    refine xa_1_2 (Option.bind_eq_some_iff.mp he) fun u hu he => ?_
    refine xa_1_2 (Option.bind_eq_some_iff.mp he) fun items hit he => ?_
    refine hCC ?_
    clear hCC
    refine s_forU_el hm fun l k q it' b' p ex hm2 => ?_
    clear hm; subst ex; replace hm := hm2; clear hm2
    · simp only [Bool.and_eq_true, Bool.not_eq_true'] at hm
      refine Classical.byContradiction fun hCC => ?_
      refine ya_4 (hm) fun h1 h2 h3 h4 => ?_
      try clear hm
      refine hCC ?_
      clear hCC
      refine for_block (NC := fun _ _ => False) (J := fun _ => True) H.a (fun _ _ _ _ _ _ q => q.elim) (fun _ _ _ _ => trivial) trivial (fun z => notSet h2 z env) ((ev_ok H it false σ kn tbl _ u env V h3 hu Eo sc.ec).f.weak fun _ _ _ q => .inl q) hit he sc (fun I v s E Q hI hq => go_tuple I v hI hq) ?_
      intro V1 σk t v o s E Q ho sk _ hi hV hQ
      split at ho
      · rename_i ts
        refine xa_1_2 (Option.bind_eq_some_iff.mp ho) fun σ' hs ho => ?_
        exact tuple_ok H.a Eo h1 hs (setAll_len hs) sk hi hV fun V2 hp2 tk2 l2 hV2 sc2 => exs_ok H Eo b V2 _ _ o h4 ho sc2 _ E Q hV2 fun f V3 hp3 tk3 l3 hV3 hf => hQ f V3 hp3 tk3 (l2.trans l3) hV3 trivial hf
      · exact none_el ho
  | .forL i j g e, V, σ, x, o, hm, he, sc => by
    replace hm : s_forL kn tbl i j g (mE G e kn tbl) x = true := hm
    refine xa_1_2 (Option.bind_eq_some_iff.mp he) fun l hs he => ?_
    have hs := cut_it (i := i) _ hs
    split at he
    · rename_i hlim
      refine xa_0_3 (hlim) fun hlim hij hig => ?_
      refine s_forL_el hm fun y py z pz u pu v pv p ex hm2 => ?_
      clear hm; subst ex; replace hm := hm2; clear hm2
      · simp only [Bool.and_eq_true, Bool.not_eq_true'] at hm
        refine Classical.byContradiction fun hCC => ?_
        refine ya_5 (hm) fun h1 h2 h3 h4 h5 => ?_
        try clear hm
        refine hCC ?_
        clear hCC
        have hdb : (z == ("__debug__" : Str)) = false := by
          simp only [vOk, Bool.and_eq_true] at h2
          exact ne_of_bne h2.2
        have hx := vOk_tbl h2
        obtain ⟨w, r1, a, vs, k, rfl, r2, r3⟩ := sc.ec.at_ i z _ hx hs (by intro h; cases h)
        have stJ : ∀ {V1 V2 : View} {h h' : Heap}, Stored F V1 V2 h h' → V1 a = some (.own F i (lstO vs k)) → V2 a = some (.own F i (lstO vs k)) := fun st e => by
          refine Classical.byContradiction fun hCC => ?_
          refine xa_3_6 (st.ex) fun b cl cl₀ rq0 q1 q2 q3 q4 q5 => ?_
          subst rq0
          refine hCC ?_
          clear hCC
          rw [View.set_ne]; exact e
          rintro rfl; rw [q1] at e; (refine some_el e fun qq => ?_; subst qq; clear e); exact q3 _ _ _ rfl
        refine for_block (t := .list l) (NC := fun b cl => b = a ∧ cl = .own F i (lstO vs k)) (J := fun V => V a = some (.own F i (lstO vs k))) H.a (fun b G' j o V1 V' q j1 _ _ => by obtain ⟨rfl, q⟩ := q; rw [q]; exact j1)
          (fun V V' lx q => lx _ _ q (by rintro _ _ _ q; cases q; exact notIt_lst _ _)) r2 (fun z => rfl) (hi := ?_) (by show (if l.length ≤ lim then some l else none) = some l; rw [if_pos hlim]) he sc (fun I v s E Q _ hq => go_name I v hq) ?_
        · intro s E Q hV hQ
          refine name_gives (R := fun V' w => VLe V V' ∧ w = .ref a) Eo r1 hdb pz ⟨VLe.refl V, rfl⟩ _ E _ hV fun w V2 hp2 tk2 l2 hV2 rw => ?_
          obtain ⟨_, rfl⟩ := rw
          exact hQ _ V2 hp2 tk2 l2 hV2 (.inr ⟨l, a, F, i, vs, k, ⟨rfl, rfl⟩, rfl, rfl, l2 _ _ r2, IsL.mono l2.toF _ _ r3⟩)
        · intro V1 σk t v o s E Q ho sk jk hi hV hQ
          refine xa_1_2 (Option.map_eq_some_iff.mp ho) fun r hr q => ?_
          subst q
          refine wpAny_assign_Name (store_gives Eo sk (lv := .frz t) h1 hi hV fun V2 hp2 tk2 st hV2 sc2 => ?_)
          refine wpAny_execs_cons (wpAny_Assign_Name ((ev_ok H e false _ kn tbl _ r env V2 h5 hr Eo sc2.ec).f _ E _ hV2 fun z V3 hp3 tk3 l3 hV3 r3 => store_gives Eo (sc2.mono l3) (lv := .frz r) h3 r3 hV3 fun V4 hp4 tk4 st4 hV4 sc4 => ?_) (swaps_no h4))
          exact wpAny_execs_nil (hQ .next V4 hp4 tk4 ((st.leS.trans l3.toS).trans st4.leS) hV4 (stJ st4 (l3 _ _ (stJ st jk))) ⟨rfl, sc4⟩)
    · exact none_el he
  | .whl k t b, V, σ, x, o, hm, he, sc => by
    replace hm : s_whl (mE G t kn tbl) (mSs G kn tbl b) x = true := hm
    refine s_whl_el hm fun t' b' p ex hm2 => ?_
    clear hm; subst ex; replace hm := hm2; clear hm2
    · simp only [Bool.and_eq_true] at hm
      obtain ⟨h1, h2⟩ := hm
      refine while_block (tst := fun σ => do asB (← ev ct false σ t)) (bod := exs ct b) (fun V1 σk b hb sk => ?_) (fun V1 σk o ho sk => exs_ok H Eo b V1 σk _ o h2 ho sk) he sc
      exact (ev_ok H t false σk kn tbl _ _ env V1 h1 (evB_bool hb) Eo sk.ec).2 b rfl
  | .opq, V, σ, x, o, hm, he, sc => by exact none_el he
theorem exs_ok (H : Hyp c A n G ct) (Eo : EOk env kn) : ∀ (ms : List MS) (V : View) (σ : List LV) (x : List Stmt) (o : Out), mSs G kn tbl ms x = true → exs ct ms σ = some o → SC c V F env kn tbl σ → GivesS c A V F env kn tbl (execs x env) o
  | [], V, σ, x, o, hm, he, sc => by
    have hx : x = [] := List.isEmpty_iff.mp hm
    subst hx
    (refine some_el he fun qq => ?_; subst qq; clear he)
    exact fun s E Q hV hQ => wpAny_execs_nil (GivesS.next hV sc hQ)
  | m :: ms, V, σ, x, o, hm, he, sc => by
    replace he : (match ex ct m σ with | some (.nxt σ') => exs ct ms σ' | r => r) = some o := he
    by_cases hf : ∃ i, m = .frz i
    · obtain ⟨i, rfl⟩ := hf
      replace hm : mSs G kn tbl ms x = true := hm
      cases ho : ex ct (.frz i) σ with
      | none => rw [ho] at he; exact none_el he
      | some o' =>
        refine Classical.byContradiction fun hCC => ?_
        refine xa_1_2 (Option.bind_eq_some_iff.mp ho) fun lv hs q => ?_
        refine xa_1_2 (Option.bind_eq_some_iff.mp q) fun t ht q => ?_
        refine hCC ?_
        clear hCC
        (refine some_el q fun qq => ?_; subst qq; clear q)
        rw [ho] at he
        refine Classical.byContradiction fun hCC => ?_
        refine xa_1_3 (frz_sc sc hs ht) fun V' f1 f2 f3 => ?_
        refine hCC ?_
        clear hCC
        intro s E Q hV hQ
        exact exs_ok H Eo ms _ _ x o hm he f3 s E Q (f2 _ hV) fun f V2 h2 tk2 l2 hV2 hf => hQ f V2 h2 tk2 (f1.trans l2) hV2 hf
    · cases ho : ex ct m σ with
      | none => rw [ho] at he; exact none_el he
      | some o' =>
        rw [ho] at he
        have hc : s_cons (mS G kn tbl m) (mSs G kn tbl ms) x = true := by
          cases m <;> first | exact hm | exact none_el ho | exact absurd ⟨_, rfl⟩ hf
        unfold s_cons at hc
        split at hc
        · obtain ⟨h1, h2⟩ := Bool.and_eq_true_iff.mp hc
          have ih := ex_ok H Eo m V σ _ o' h1 ho sc
          intro s E Q hV hQ
          refine wpAny_execs_cons (ih s E _ hV fun f V1 hp1 tk1 l1 hV1 hf => ?_)
          cases o' with
          | nxt σ' =>
            obtain ⟨rfl, sc1⟩ := hf
            exact exs_ok H Eo ms V1 σ' _ o h2 he sc1 _ E Q hV1 fun f V2 hp2 tk2 l2 hV2 hf => hQ f V2 hp2 tk2 (l1.trans l2) hV2 hf
          | ret r =>
            refine xa_1_2 (hf) fun w rq0 hw => ?_
            try clear hf
            subst rq0
            (refine some_el he fun qq => ?_; subst qq; clear he)
            exact hQ (.ret w) V1 hp1 tk1 l1 hV1 ⟨w, rfl, hw⟩
          | retO r =>
            refine Classical.byContradiction fun hCC => ?_
            refine xa_4_2 (hf) fun w vs k j rq0 hw => ?_
            try clear hf
            subst rq0
            refine hCC ?_
            clear hCC
            (refine some_el he fun qq => ?_; subst qq; clear he)
            exact hQ (.ret (.ref w)) V1 hp1 tk1 l1 hV1 ⟨w, vs, k, j, rfl, hw⟩
        · exact ff_el hc
end
set_option tactic.hygienic false
end
end Mine
end
section
open PySem PySem.W PySem.Calls PyProof.Rows PySem.Spec PySem.SeqAt
set_option genInjectivity false
set_option tactic.hygienic false
namespace Mine
section
variable {c : Cfg} {A : Around} {V V' : View} {F : Addr} {n : Nat} {G : Str → Option Value} {ct : Addr → List T → Option T} {env : Env} {kn : KN} {tbl : List (Option Str)} {σ : List LV}
theorem fresh_tag {h : Heap} (H : On V h) : ∃ F, ∀ a cl, V a = some cl → cl.tag ≠ some F := by
  have : ∀ n : Nat, ∃ B, ∀ a, a < n → ∀ cl F, V a = some cl → cl.tag = some F → F < B := by
    intro n
    induction n with
    | zero => exact ⟨0, fun a ha => absurd ha (Nat.not_lt_zero a)⟩
    | succ n ih =>
      obtain ⟨B, hB⟩ := ih
      cases q : V n with
      | none => exact ⟨B, fun a ha cl F e t => by
          rcases Nat.lt_succ_iff_lt_or_eq.mp ha with h | rfl
          · exact hB a h cl F e t
          · rw [q] at e; exact none_el e⟩
      | some cl₀ =>
        cases t₀ : cl₀.tag with
        | none => exact ⟨B, fun a ha cl F e t => by
            rcases Nat.lt_succ_iff_lt_or_eq.mp ha with h | rfl
            · exact hB a h cl F e t
            · rw [q] at e; (refine some_el e fun qq => ?_; subst qq; clear e); rw [t₀] at t; exact none_el t⟩
        | some F₀ => exact ⟨max B (F₀ + 1), fun a ha cl F e t => by
            rcases Nat.lt_succ_iff_lt_or_eq.mp ha with h | rfl
            · exact Nat.lt_of_lt_of_le (hB a h cl F e t) (Nat.le_max_left _ _)
            · rw [q] at e; (refine some_el e fun qq => ?_; subst qq; clear e); rw [t₀] at t; (refine some_el t fun qq => ?_; subst qq; clear t)
              exact Nat.lt_of_lt_of_le (Nat.lt_succ_self _) (Nat.le_max_right _ _)⟩
  obtain ⟨B, hB⟩ := this h.objs.size
  exact ⟨B, fun a cl e t => Nat.lt_irrefl _ (hB a (H.lt e) cl B e t)⟩
noncomputable def cellIx (cells : List (Str × Addr)) (a : Addr) : List (Option Str) → Nat → Option (Nat × Str)
  | [], _ => none
  | some nm :: r, i => if cells.lookup nm = some a then some (i, nm) else cellIx cells a r (i + 1)
  | none :: r, i => cellIx cells a r (i + 1)
theorem cellIx_spec {cells : List (Str × Addr)} {a : Addr} : ∀ {tbl : List (Option Str)} {k i : Nat} {nm : Str}, cellIx cells a tbl k = some (i, nm) → cells.lookup nm = some a
  | [], _, _, _, h => by exact none_el h
  | some x :: r, k, i, nm, h => by
    unfold cellIx at h
    split at h
    · rename_i q; cases h; exact q
    · exact cellIx_spec h
  | none :: r, k, i, nm, h => cellIx_spec (tbl := r) h
theorem cellIx_at {cells : List (Str × Addr)} {a : Addr} : ∀ {tbl : List (Option Str)} {i : Nat} (k : Nat) {nm : Str}, tbl[i]? = some (some nm) → cells.lookup nm = some a → (∀ (j : Nat) nm', tbl[j]? = some (some nm') → cells.lookup nm' = some a → j = i) → cellIx cells a tbl k = some (i + k, nm)
  | [], _, _, _, h, _, _ => by exact none_el h
  | o :: r, 0, k, nm, h, h1, h2 => by
    (refine some_el h fun qq => ?_; subst qq; clear h)
    unfold cellIx
    rw [if_pos h1, Nat.zero_add]
  | o :: r, i + 1, k, nm, h, h1, h2 => by
    have ih := cellIx_at (tbl := r) (i := i) (k + 1) (by simpa using h) h1 fun j nm' a b => by
      have := h2 (j + 1) nm' (by simpa using a) b
      omega
    have e : i + (k + 1) = i + 1 + k := by omega
    rw [e] at ih
    cases o with
    | none => exact ih
    | some x =>
      unfold cellIx
      rw [if_neg fun q => by have := h2 0 x rfl q; omega]
      exact ih
noncomputable def frView (V : View) (L F : Addr) (m : Str → Option Value) (cells : List (Str × Addr)) (cm : Str → Option Value) (tbl : List (Option Str)) : View := fun a =>
  if a = L then some (.ns F m) else match cellIx cells a tbl 0 with
    | some (i, nm) => some (.cl F i (cm nm))
    | none => V a
theorem cellsFrom_some {x : Str} : ∀ (names : List (Str × NameKind)) (n : Nat) (acc : List (Str × Addr)), (names.lookup x = some .cell ∨ (acc.lookup x).isSome = true) → ((cellsFrom n names acc).lookup x).isSome = true
  | [], _, _, h => by
    rcases h with h | h
    · exact none_el h
    · exact h
  | (nm, k) :: r, n, acc, h => by
    unfold cellsFrom
    by_cases hk : (k == NameKind.cell) = true
    · rw [if_pos hk]
      refine cellsFrom_some r _ _ ?_
      by_cases hx : (x == nm) = true
      · right; rw [List.lookup_cons, hx]; rfl
      · rcases h with h | h
        · left; rw [List.lookup_cons] at h; simpa only [hx] using h
        · right; rw [List.lookup_cons]; simpa only [hx] using h
    · rw [if_neg hk]
      refine cellsFrom_some r _ _ ?_
      rcases h with h | h
      · rw [List.lookup_cons] at h
        by_cases hx : (x == nm) = true
        · rw [hx] at h; (refine some_el h fun qq => ?_; subst qq; clear h); exact absurd rfl hk
        · left; simpa only [hx] using h
      · exact .inr h
theorem bindL_out {kindOf : Str → Option NameKind} {x : Str} : ∀ (binds : List (Str × Value)) (m : Str → Option Value), x ∉ binds.map (·.1) → bindL kindOf binds m x = m x
  | [], m, _ => rfl
  | (y, v) :: r, m, h => by
    rw [List.map_cons, List.mem_cons, not_or] at h
    unfold bindL
    rw [bindL_out r _ h.2]
    split
    · exact if_neg h.1
    · rfl
theorem bindC_out {kindOf : Str → Option NameKind} {x : Str} : ∀ (binds : List (Str × Value)) (m : Str → Option Value), x ∉ binds.map (·.1) → bindC kindOf binds m x = m x
  | [], m, _ => rfl
  | (y, v) :: r, m, h => by
    rw [List.map_cons, List.mem_cons, not_or] at h
    unfold bindC
    rw [bindC_out r _ h.2]
    split
    · rfl
    · exact if_neg h.1
theorem bindL_in {kindOf : Str → Option NameKind} {x : Str} {v : Value} (hk : kindOf x = some .local) : ∀ (binds : List (Str × Value)) (m : Str → Option Value), (binds.map (·.1)).Nodup → (x, v) ∈ binds → bindL kindOf binds m x = some v
  | (y, w) :: r, m, hn, h => by
    rw [List.map_cons, List.nodup_cons] at hn
    unfold bindL
    rcases List.mem_cons.mp h with e | h
    · cases e
      rw [bindL_out r _ hn.1, if_pos hk]; exact if_pos rfl
    · exact bindL_in hk r _ hn.2 h
theorem bindC_in {kindOf : Str → Option NameKind} {x : Str} {v : Value} (hk : kindOf x = some .cell) : ∀ (binds : List (Str × Value)) (m : Str → Option Value), (binds.map (·.1)).Nodup → (x, v) ∈ binds → bindC kindOf binds m x = some v
  | (y, w) :: r, m, hn, h => by
    rw [List.map_cons, List.nodup_cons] at hn
    unfold bindC
    rcases List.mem_cons.mp h with e | h
    · cases e
      rw [bindC_out r _ hn.1, if_neg (by rw [hk]; intro q; cases q)]; exact if_pos rfl
    · exact bindC_in hk r _ hn.2 h
noncomputable def nodupO : List (Option Str) → Bool
  | [] => true
  | none :: r => nodupO r
  | some x :: r => !r.contains (some x) && nodupO r
theorem nodupO_spec : ∀ {tbl : List (Option Str)}, nodupO tbl = true → ∀ (i j : Nat) (x : Str), tbl[i]? = some (some x) → tbl[j]? = some (some x) → i = j
  | [], _, i, j, x, h, _ => by exact none_el h
  | o :: r, h, i, j, x, hi, hj => by
    have hr : nodupO r = true := by
      cases o with
      | none => exact h
      | some y => exact (Bool.and_eq_true_iff.mp h).2
    have hd : ∀ (k : Nat), o = some x → r[k]? = some (some x) → False := fun k e q => by
      subst e
      have h1 := (Bool.and_eq_true_iff.mp h).1
      have := List.contains_iff_mem.mpr (List.mem_of_getElem? q)
      rw [this] at h1; exact ff_el h1
    cases i with
    | zero =>
      cases j with
      | zero => rfl
      | succ j => exact (hd j (by simpa using hi) (by simpa using hj)).elim
    | succ i =>
      cases j with
      | zero => exact (hd i (by simpa using hj) (by simpa using hi)).elim
      | succ j => exact congrArg Nat.succ (nodupO_spec hr i j x (by simpa using hi) (by simpa using hj))
noncomputable def bodyOk (G : Str → Option Value) (fd : FuncData) (tbl : List (Option Str)) (ms : List MS) : Bool := match fd.body with
  | .stmts b => mSs G fd.scope.names tbl ms b
  | _ => false
noncomputable def okFn (G : Str → Option Value) (K : Frag) (fd : FuncData) (ps : List Str) (tbl : List (Option Str)) (ms : List MS) : Bool :=
  (fd.scope.kind == .function && !fd.scope.isCoroutine && !fd.scope.isGenerator && fd.globals == mainGlobals && fd.builtins == builtinsNs && fd.closure.isEmpty && codeIn K fd.code fd.qualname) &&
  (tbl.take ps.length == ps.map some && nodupO tbl && decide (tbl.length < 1000) && ps.all (fun x => fd.scope.names.lookup x == some .local || fd.scope.names.lookup x == some .cell)) && bodyOk G fd tbl ms
noncomputable def runFn (ct : Addr → List T → Option T) (ms : List MS) (w : Nat) (args : List T) : Option T :=
  match exs ct ms (args.map .frz ++ List.replicate (w - args.length) .undef) with
  | some (.ret t) => some t
  | some (.nxt _) => some .none
  | some (.retO _) => none
  | none => none
noncomputable def runFnL (ct : Addr → List T → Option T) (ms : List MS) (w : Nat) (args : List T) : Option T :=
  match exs ct ms (args.map .frz ++ List.replicate (w - args.length) .undef) with
  | some (.retO l) => some (.list l)
  | _ => none
theorem call_cellsB {R : Result → Shared → Prop} {s : Shared} {a : Addr} {o : Obj} {fd : FuncData} {body : List Stmt} {vals : List Value} {binds : List (Str × Value)}
    (hroom : A.depth < recursionLimit) (ho : s.heap.get? a = some o) (hdata : o.data = .func fd) (hlim : s.heap.NoLimit) (hcd : s.heap.CodeRec fd.code fd.qualname)
    (hbody : fd.body = .stmts body) (hbind : BindsTo s fd ⟨vals, []⟩ binds) (hclo : fd.closure = [])
    (hkind : ∀ x ∈ binds, fd.scope.names.lookup x.1 = some .local ∨ (fd.scope.names.lookup x.1 = some .cell ∧ ((cellsFrom (s.heap.objs.size + 1) fd.scope.names []).lookup x.1).isSome = true))
    (h : ∀ s₁, InCallC s (callEnvC fd s.heap.objs.size a).locals (bindL (callEnvC fd s.heap.objs.size a).kindOf binds fun _ => none) (callEnvC fd s.heap.objs.size a).cells
        (bindC (callEnvC fd s.heap.objs.size a).kindOf binds fun _ => none) s₁ →
      wpAny c.M (A.deeper (callEnvC fd s.heap.objs.size a)) (execs body (callEnvC fd s.heap.objs.size a)) (fun f s' => R (.ok (.ret (match f with | .ret v => v | _ => .none))) s')
        (fun e s' => wpAny c.M (A.deeper (callEnvC fd s.heap.objs.size a)) (leaving (callEnvC fd s.heap.objs.size a) e) (fun _ s'' => R (.error e) s'') (fun e' s'' => R (.error e') s'') s') s₁)
    (hco : fd.scope.isCoroutine = false) (hgen : fd.scope.isGenerator = false) (hk : fd.scope.kind = .function) :
    codeAny c.M A (.call (.ref a) ⟨vals, []⟩) R s := by
  refine codeAny_call_function hroom ho hdata hco hgen hbody hcd ?_
  rw [hclo]
  refine hbind _ _ _ _ (wpAny_newFunctionEnv_cells hk hkind fun env he s' x => ?_)
  subst he
  exact ⟨hlim.keeps x.toInCall.keep, codeAny_func (h s' x)⟩
set_option tactic.hygienic true in
theorem fn_gives {ps : List Str} {ms : List MS} {a : Addr} {fd : FuncData} {k : Nat} {ds : List Value} {dts : List T} (H : ∀ A, AOk n A → Hyp c A n G ct) (ha : fnAt c.K a = some fd) (ok : okFn G c.K fd ps tbl ms = true)
    (hb : ∀ (s : Shared) (vs : List Value), c.K.In s.heap → vs.length = k → BindsTo s fd ⟨vs, []⟩ (ps.zip (vs ++ ds))) (hd : ∀ V, IsL c V dts ds) (hk : k + ds.length = ps.length) {args : List T} (hl : args.length = k)
    {o : Out} (run : exs ct ms ((args ++ dts).map .frz ++ List.replicate (tbl.length - (args ++ dts).length) .undef) = some o) (hA : AOk (n + 1) A) {vs : List Value} (hvs : IsL c V args vs) {s : Shared} {E Q : Value → Shared → Prop} (hon : On V s.heap) (hst : ∀ a o, c.g.get? a = some o → V a = some (.frz o))
    (hQ : ∀ F f V1 V' h' tk env kn, VLe V V1 → (∀ a cl, V a = some cl → cl.tag ≠ some F) → VLeS F V1 V' → Vw c V' h' → OutOk c V' F env kn tbl o f → Q (match f with | .ret v => v | _ => .none) { s with heap := h', toks := tk }) :
    wpAny c.M A (call (.ref a) vs) Q E s := by
  have hkeep : ∀ b o, c.g.get? b = some o → s.heap.get? b = some o := fun b o e => hon.frz (hst b o e)
  have hVK : c.K.In s.heap := c.hK.keeps hkeep
  simp only [okFn, Bool.and_eq_true, Bool.not_eq_true', decide_eq_true_eq] at ok
  refine Classical.byContradiction fun hCC => ?_
  obtain ⟨⟨⟨⟨⟨⟨⟨⟨k1, k2⟩, k3⟩, k4⟩, k5⟩, k6⟩, k7⟩, ⟨⟨⟨t1, t2⟩, t3⟩, t4⟩⟩, t5⟩ := ok
  have k1 : fd.scope.kind = .function := eq_of_beq k1
  have k4 : fd.globals = mainGlobals := eq_of_beq k4
  have k5 : fd.builtins = builtinsNs := eq_of_beq k5
  have k6 : fd.closure = [] := List.isEmpty_iff.mp k6
  have t1 : tbl.take ps.length = ps.map some := eq_of_beq t1
  refine xa_1_2 (fnAt_some ha) fun oo ho hdata => ?_
  refine hCC ?_
  clear hCC
  unfold bodyOk at t5
  split at t5
  · rename_i body hbody
    have hvl : vs.length = k := by rw [hvs.length, hl]
    have hnd := nodupO_spec t2
    have hpt : ∀ (i : Nat) x, ps[i]? = some x → tbl[i]? = some (some x) := fun i x e => by
      have hi : i < ps.length := (List.getElem?_eq_some_iff.mp e).1
      have : (tbl.take ps.length)[i]? = some (some x) := by rw [t1, List.getElem?_map, e]; rfl
      rwa [List.getElem?_take, if_pos hi] at this
    have hpn : ps.Nodup := by
      rw [List.nodup_iff_pairwise_ne, List.pairwise_iff_getElem]
      intro i j hi hj hij e
      have := hnd i j ps[i] (hpt i _ (by simp)) (hpt j _ (by rw [e]; simp))
      omega
    have hzl : (vs ++ ds).length = ps.length := by rw [List.length_append, hvl, hk]
    have hzn : ((ps.zip (vs ++ ds)).map (·.1)) = ps := List.map_fst_zip (by rw [hzl]; exact Nat.le_refl _)
    have hpk : ∀ x ∈ ps, fd.scope.names.lookup x = some .local ∨ fd.scope.names.lookup x = some .cell := fun x hx => by
      have := List.all_eq_true.mp t4 x hx
      rcases Bool.or_eq_true_iff.mp this with h | h
      · exact .inl (eq_of_beq h)
      · exact .inr (eq_of_beq h)
    refine wpAny_call (call_cellsB (binds := ps.zip (vs ++ ds)) hA.room (hVK _ _ ho) hdata (c.lim.keeps hkeep) (codeRec_of hVK k7) hbody (hb s vs hVK hvl) k6 (fun x hx => ?_) (fun s₁ x => ?_) k2 k3 k1)
    · have hm : x.1 ∈ ps := by rw [← hzn]; exact List.mem_map_of_mem hx
      rcases hpk _ hm with h | h
      · exact .inl h
      · exact .inr ⟨h, cellsFrom_some _ _ _ (.inl h)⟩
    · obtain ⟨⟨⟨hp1, tk1, rfl⟩, xns, xkeep, xfresh⟩, xcell, xapart, xabove⟩ := x
      generalize hL : s.heap.objs.size = L at *
      obtain ⟨F, hF⟩ := fresh_tag hon
      have eL : (callEnvC fd L a).locals = L := rfl
      rw [eL] at xns xfresh xabove
      have Eo : EOk (callEnvC fd L a) fd.scope.names := ⟨rfl, k1, k4, k5, fun y hy => cellsFrom_some _ _ _ (.inl hy)⟩
      have hkof : ∀ x, (callEnvC fd L a).kindOf x = fd.scope.names.lookup x := fun _ => rfl
      generalize hmL : bindL (callEnvC fd L a).kindOf (ps.zip (vs ++ ds)) (fun _ => none) = m at xns
      generalize hmC : bindC (callEnvC fd L a).kindOf (ps.zip (vs ++ ds)) (fun _ => none) = cm at xcell
      generalize hcs : (callEnvC fd L a).cells = cs at *
      have vlt : ∀ b cl, V b = some cl → b < L := fun b cl e => by rw [← hL]; exact hon.lt e
      have lV : VLe V (frView V L F m cs cm tbl) := fun b cl e => by
        have hb := vlt b cl e
        unfold frView
        rw [if_neg (Nat.ne_of_lt hb)]
        cases q : cellIx cs b tbl 0 with
        | none => exact e
        | some p =>
          obtain ⟨i, nm⟩ := p
          have := xabove nm b (mem_of_lookup (cellIx_spec q))
          exact (Nat.lt_asymm hb this).elim
      have vL : (frView V L F m cs cm tbl) L = some (.ns F m) := by unfold frView; exact if_pos rfl
      have vC : ∀ i x, tbl[i]? = some (some x) → ∀ a, cs.lookup x = some a → (frView V L F m cs cm tbl) a = some (.cl F i (cm x)) := fun i x e a q => by
        have := xabove x a (mem_of_lookup q)
        unfold frView
        rw [if_neg (Nat.ne_of_gt this), cellIx_at 0 e q fun j nm' e' q' => by
          have : nm' = x := name_of_addr xapart (mem_of_lookup q') (mem_of_lookup q)
          subst this
          exact hnd _ _ _ e' e]
        rfl
      have hV1 : Vw c (frView V L F m cs cm tbl) hp1 := by
        refine ⟨fun b cl e => ?_, fun b o e => lV _ _ (hst b o e), L, F, m, vL⟩
        unfold frView at e
        by_cases hb : b = L
        · subst hb
          rw [if_pos rfl] at e; (refine some_el e fun qq => ?_; subst qq; clear e)
          refine Classical.byContradiction fun hCC => ?_
          refine xa_3_4 (xns) fun o es ep g1 g2 g3 g4 => ?_
          try clear xns
          refine hCC ?_
          clear hCC
          exact ⟨o, g1, es, ep, g2, g3, g4⟩
        · rw [if_neg hb] at e
          split at e
          · rename_i i nm q
            (refine some_el e fun qq => ?_; subst qq; clear e)
            refine xa_1_2 (xcell nm b (cellIx_spec q)) fun o g1 g2 => ?_
            exact ⟨o, g1, g2⟩
          · obtain ⟨o, ho, hc⟩ := hon b cl e
            exact ⟨o, xkeep b o ho, hc⟩
      have hal : (args ++ dts).length = ps.length := by
        have := (hd V).length
        rw [List.length_append, hl, ← this, hk]
      have hple : ps.length ≤ tbl.length := by
        have := congrArg List.length t1
        rw [List.length_take, List.length_map] at this
        exact this ▸ Nat.min_le_right _ _
      have hargs : IsL c (frView V L F m cs cm tbl) (args ++ dts) (vs ++ ds) := (hvs.mono lV.toF).append (hd _)
      have sc : SC c (frView V L F m cs cm tbl) F (callEnvC fd L a) fd.scope.names tbl ((args ++ dts).map .frz ++ List.replicate (tbl.length - (args ++ dts).length) .undef) := by
        refine ⟨⟨by rw [List.length_append, List.length_map, List.length_replicate]; omega, fun i x lv e1 e2 e3 => ?_⟩, ⟨m, vL⟩, fun i x e1 e2 => ?_, hnd, t3⟩
        · by_cases hi : i < (args ++ dts).length
          · rw [List.getElem?_append_left (by rw [List.length_map]; exact hi), List.getElem?_map] at e2
            have hai : (args ++ dts)[i]? = some (args ++ dts)[i] := by simp [hi]
            rw [hai] at e2; (refine some_el e2 fun qq => ?_; subst qq; clear e2)
            refine xa_1_2 (hargs.get i _ hai) fun v v1 v2 => ?_
            have hpi : ps[i]? = some x := by
              have h1 : ps[i]? = some (ps[i]'(by omega)) := by simp
              have h2 := hpt i _ h1
              rw [e1] at h2
              rw [h1]; cases h2; rfl
            have hmem : (x, v) ∈ ps.zip (vs ++ ds) := by
              refine List.mem_of_getElem? (i := i) ?_
              rw [List.getElem?_zip_eq_some]; exact ⟨hpi, v1⟩
            refine ⟨v, ?_, v2⟩
            rcases hpk x (List.mem_of_getElem? hpi) with h | h
            · left
              refine ⟨h, F, m, vL, ?_⟩
              rw [← hmL]
              exact bindL_in h _ _ (by rw [hzn]; exact hpn) hmem
            · right
              have hsome : ((callEnvC fd L a).cells.lookup x).isSome = true := cellsFrom_some _ _ _ (.inl h)
              rw [hcs] at hsome
              obtain ⟨a', ha'⟩ := Option.isSome_iff_exists.mp hsome
              refine ⟨h, a', by rw [hcs]; exact ha', ?_⟩
              rw [vC i x e1 a' ha', ← hmC, bindC_in h _ _ (by rw [hzn]; exact hpn) hmem]
          · rw [List.getElem?_append_right (by rw [List.length_map]; omega)] at e2
            have := List.eq_of_mem_replicate (List.mem_of_getElem? e2)
            exact absurd this e3
        · have hsome : ((callEnvC fd L a).cells.lookup x).isSome = true := cellsFrom_some _ _ _ (.inl e2)
          rw [hcs] at hsome
          obtain ⟨a', ha'⟩ := Option.isSome_iff_exists.mp hsome
          exact ⟨a', _, by rw [hcs]; exact ha', vC i x e1 a' ha'⟩
      exact exs_ok (H _ (hA.deeper _)) Eo ms _ _ body _ t5 run sc _ _ _ hV1 fun f V2 h2 tk2 l2 hV2 hf => hQ F f _ V2 h2 tk2 _ _ lV hF l2 hV2 hf
  · exact ff_el t5
set_option tactic.hygienic true in
theorem con_fn {ps : List Str} {ms : List MS} {a : Addr} {fd : FuncData} {k : Nat} {ds : List Value} {dts : List T} (H : ∀ A, AOk n A → Hyp c A n G ct) (ha : fnAt c.K a = some fd) (ok : okFn G c.K fd ps tbl ms = true)
    (hb : ∀ (s : Shared) (vs : List Value), c.K.In s.heap → vs.length = k → BindsTo s fd ⟨vs, []⟩ (ps.zip (vs ++ ds))) (hd : ∀ V, IsL c V dts ds) (hk : k + ds.length = ps.length) {args : List T} {r : T} (hl : args.length = k)
    (run : runFn ct ms tbl.length (args ++ dts) = some r) : Con c (n + 1) (.ref a) args r := by
  intro A V vs hA hvs s E Q hV hQ
  unfold runFn at run
  split at run
  · rename_i t he
    (refine some_el run fun qq => ?_; subst qq; clear run)
    refine fn_gives H ha ok hb hd hk hl he hA hvs hV.on hV.st fun F f V1 V' h' tk env kn l1 hF l2 hV' hf => ?_
    refine xa_1_2 (hf) fun w rq0 hw => ?_
    try clear hf
    subst rq0
    exact hQ w V' h' tk (fun b cl e => l2 b cl (l1 _ _ e) (hF b cl e)) hV' hw
  · rename_i σ' he
    (refine some_el run fun qq => ?_; subst qq; clear run)
    refine fn_gives H ha ok hb hd hk hl he hA hvs hV.on hV.st fun F f V1 V' h' tk env kn l1 hF l2 hV' hf => ?_
    obtain ⟨rfl, _⟩ := hf
    exact hQ .none V' h' tk (fun b cl e => l2 b cl (l1 _ _ e) (hF b cl e)) hV' rfl
  · exact none_el run
  · exact none_el run
set_option tactic.hygienic true in
theorem con_fnL {ps : List Str} {ms : List MS} {a : Addr} {fd : FuncData} {k : Nat} {ds : List Value} {dts : List T} (H : ∀ A, AOk n A → Hyp c A n G ct) (ha : fnAt c.K a = some fd) (ok : okFn G c.K fd ps tbl ms = true)
    (hb : ∀ (s : Shared) (vs : List Value), c.K.In s.heap → vs.length = k → BindsTo s fd ⟨vs, []⟩ (ps.zip (vs ++ ds))) (hd : ∀ V, IsL c V dts ds) (hk : k + ds.length = ps.length) {args rs : List T} (hl : args.length = k)
    (run : runFnL ct ms tbl.length (args ++ dts) = some (.list rs)) : ConL c (n + 1) (.ref a) args rs := by
  intro A V vs hA hvs s E Q hV hQ
  unfold runFnL at run
  split at run
  · rename_i t he
    cases run
    refine fn_gives H ha ok hb hd hk hl he hA hvs hV.on hV.st fun F f V1 V' h' tk env kn l1 hF l2 hV' hf => ?_
    refine Classical.byContradiction fun hCC => ?_
    refine xa_4_3 (hf) fun b us k' j rq0 hb hi => ?_
    try clear hf
    subst rq0
    refine hCC ?_
    clear hCC
    have vb : V b = none := by
      cases q : V b with
      | none => rfl
      | some cl =>
        have := l2 b cl (l1 _ _ q) (hF b cl q)
        rw [hb] at this; (refine some_el this fun qq => ?_; subst qq; clear this)
        exact absurd rfl (hF b _ q)
    have lf : VLe V (fun x => if x = b then none else V' x) := fun x cl e => by
      have hx : x ≠ b := by rintro rfl; rw [vb] at e; exact none_el e
      show (if x = b then none else V' x) = _
      rw [if_neg hx]; exact l2 x cl (l1 _ _ e) (hF x cl e)
    refine hQ b us k' (fun x => if x = b then none else V' x) h' tk lf ⟨fun x cl e => ?_, fun x o e => lf _ _ (hV.st x o e), by obtain ⟨L, G, m, q⟩ := hV.nsx; exact ⟨L, G, m, lf _ _ q⟩⟩ (by simp) (hV'.on.own hb) (hi.mono fun x cl e t => ?_)
    · replace e : (if x = b then none else V' x) = some cl := e
      by_cases hx : x = b
      · rw [if_pos hx] at e; exact none_el e
      · rw [if_neg hx] at e; exact hV'.on x cl e
    · have hx : x ≠ b := by rintro rfl; rw [hb] at e; (refine some_el e fun qq => ?_; subst qq; clear e); cases t
      show (if x = b then none else V' x) = _
      rw [if_neg hx]; exact e
  · exact none_el run
end
end Mine
end
section
open PySem PySem.W PySem.Calls PyProof.Rows PySem.Spec PySem.SeqAt
set_option genInjectivity false
set_option tactic.hygienic false
namespace Mine
structure FE where
  a : Addr
  ps : List Str
  tbl : List (Option Str)
  ms : List MS
  ds : List (Value × T)
noncomputable def f_from_int.tbl : List (Option Str) := [some "n"]
noncomputable def f_from_int.ms : List MS := [
  .ite (.cmp .Is (.var 0) .none) [
    .ret .none] [],
  .ret (.tup [(.var 0), (.int 1)])]
noncomputable def f_special_text.tbl : List (Option Str) := [some "x"]
noncomputable def f_special_text.ms : List MS := [
  .ite (.cmp .Is (.var 0) .none) [
    .ret (.str "NA")] [],
  .ite (.cmp .Gt (.idx (.var 0) (.int 1)) (.int 0)) [
    .ret .none] [],
  .ite (.cmp .Eq (.idx (.var 0) (.int 0)) (.int 0)) [
    .ret (.str "NaN")] [],
  .ret (.ite (.cmp .Gt (.idx (.var 0) (.int 0)) (.int 0)) (.str "Inf") (.str "-Inf"))]
noncomputable def f_whole_text.tbl : List (Option Str) := [some "n", some "rest", some "row", some "part"]
noncomputable def f_whole_text.ms : List MS := [
  .asg 1 (.bcall .abs [(.var 0)]),
  .asgF 2 (.list []),
  .whl 64 (.cmp .GtE (.var 1) (.bin .Pow (.int 10) (.int 18))) [
    .unp [1, 3] .opq,
    .app 2 .opq],
  .app 2 (.bcall .str [(.var 1)]),
  .ite (.cmp .Lt (.var 0) (.int 0)) [
    .app 2 (.str "-")] [],
  .rev 2,
  .frz 2,
  .ret (.meth .join (.str "") [(.var 2)])]
noncomputable def f_exact_text.tbl : List (Option Str) := [some "x", some "text", some "places", some "n"]
noncomputable def f_exact_text.ms : List MS := [
  .asg 1 (.call "special_text" 108 [(.var 0)]),
  .ite (.cmp .IsNot (.var 1) .none) [
    .ret (.var 1)] [],
  .ite (.cmp .Eq (.idx (.var 0) (.int 1)) (.int 1)) [
    .ret (.call "whole_text" 101 [(.idx (.var 0) (.int 0))])] [],
  .asg 2 .opq,
  .ite (.bop .And [(.cmp .IsNot (.var 2) .none), (.cmp .LtE (.var 2) (.int 15))]) [
    .asg 3 .opq,
    .ite (.cmp .Lt (.var 3) (.bin .Pow (.int 10) (.int 15))) [
      .ret .opq] []] [],
  .ret (.bin .Add (.bin .Add (.call "whole_text" 101 [(.idx (.var 0) (.int 0))]) (.str "/")) (.call "whole_text" 101 [(.idx (.var 0) (.int 1))]))]
noncomputable def f_room.tbl : List (Option Str) := [some "n"]
noncomputable def f_room.ms : List MS := [
  .ite (.cmp .Gt (.var 0) (.gint "MOST_LENGTH" 1000000)) [
    .opq] [],
  .ret (.var 0)]
noncomputable def f_integer.tbl : List (Option Str) := [some "items"]
noncomputable def f_integer.ms : List MS := [
  .ret (.call "Vector" 311 [(.str "integer"), (.bcall .list [(.var 0)])])]
noncomputable def f_character.tbl : List (Option Str) := [some "items"]
noncomputable def f_character.ms : List MS := [
  .ret (.call "Vector" 311 [(.str "character"), (.bcall .list [(.var 0)])])]
noncomputable def f_length.tbl : List (Option Str) := [some "v", some "kind"]
noncomputable def f_length.ms : List MS := [
  .asg 1 (.attr (.var 0) "kind"),
  .ite (.cmp .Eq (.var 1) (.str "NULL")) [
    .ret (.int 0)] [],
  .ite (.bop .Or [(.isv (.var 0)), (.cmp .Eq (.var 1) (.str "language"))]) [
    .ret (.bcall .len [(.attr (.var 0) "items")])] [],
  .ite (.cmp .Eq (.var 1) (.str "environment")) [
    .ret (.bcall .len [.opq])] [],
  .ite (.cmp .Eq (.var 1) (.str "dots")) [
    .ret (.bcall .len [.opq])] [],
  .ret (.int 1)]
noncomputable def f_share.tbl : List (Option Str) := [some "v"]
noncomputable def f_share.ms : List MS := [
  .ite (.isv (.var 0)) [
    .shr 0] [],
  .ret (.var 0)]
noncomputable def f_get_attr.tbl : List (Option Str) := [some "v", some "name"]
noncomputable def f_get_attr.ms : List MS := [
  .ite (.cmp .Is (.attr (.var 0) "attrs") .none) [
    .ret .none] [],
  .ret (.meth .get (.attr (.var 0) "attrs") [(.var 1)])]
noncomputable def f_label_text.tbl : List (Option Str) := [some "kind", some "item"]
noncomputable def f_label_text.ms : List MS := [
  .ite (.bop .Or [(.cmp .Is (.var 1) .none), (.cmp .Eq (.var 0) (.str "character"))]) [
    .ret (.var 1)] [],
  .ite (.cmp .Eq (.var 0) (.str "logical")) [
    .ret (.ite (.cmp .Eq (.var 1) (.int 1)) (.str "TRUE") (.str "FALSE"))] [],
  .ite (.cmp .Eq (.var 0) (.str "integer")) [
    .ret (.bcall .str [(.var 1)])] [],
  .ret .opq]
noncomputable def f_label_texts.tbl : List (Option Str) := [some "value", some "levels", some "texts"]
noncomputable def f_label_texts.ms : List MS := [
  .asg 1 (.call "get_attr" 364 [(.var 0), (.str "levels")]),
  .ite (.bop .And [(.cmp .IsNot (.var 1) .none), (.cmp .Eq (.attr (.var 0) "kind") (.str "integer")), (.cmp .In (.str "factor") (.call "class_attr" 407 [(.var 0)]))]) [
    .asg 2 (.ite .opq (.call "label_texts" 383 [(.var 1)]) (.list [])),
    .ret (.comp .opq (.attr (.var 0) "items") none)] [],
  .ret (.comp (.call "label_text" 371 [(.attr (.var 0) "kind"), (.var 3)]) (.attr (.var 0) "items") none)]
noncomputable def f_names_of.tbl : List (Option Str) := [some "v", some "tag", some "dims", some "rows", some "names"]
noncomputable def f_names_of.ms : List MS := [
  .ite (.cmp .Eq (.attr (.var 0) "kind") (.str "language")) [
    .forI 1 .opq [
      .ite (.cmp .IsNot (.var 1) .none) [
        .ret (.comp (.ite (.cmp .Is (.var 5) .none) (.str "") (.var 5)) .opq none)] []],
    .ret .none] [],
  .ite (.cmp .Eq (.attr (.var 0) "kind") (.str "environment")) [
    .ret (.bcall .sorted [.opq])] [],
  .asg 2 (.call "dim_of" 395 [(.var 0)]),
  .ite (.bop .And [(.cmp .IsNot (.var 2) .none), (.cmp .Eq (.bcall .len [(.var 2)]) (.int 1))]) [
    .asg 3 .opq,
    .ret (.ite (.cmp .Is (.var 3) .none) .none (.idx (.var 3) (.int 0)))] [],
  .asg 4 (.call "get_attr" 364 [(.var 0), (.str "names")]),
  .ite (.cmp .Is (.var 4) .none) [
    .ret .none] [],
  .ret (.bcall .list [(.attr (.var 4) "items")])]
noncomputable def f_dim_of.tbl : List (Option Str) := [some "v", some "dims"]
noncomputable def f_dim_of.ms : List MS := [
  .asg 1 (.call "get_attr" 364 [(.var 0), (.str "dim")]),
  .ite (.cmp .Is (.var 1) .none) [
    .ret .none] [],
  .ret (.bcall .list [(.attr (.var 1) "items")])]
noncomputable def f_class_attr.tbl : List (Option Str) := [some "v", some "found"]
noncomputable def f_class_attr.ms : List MS := [
  .asg 1 (.call "get_attr" 364 [(.var 0), (.str "class")]),
  .ite (.cmp .Is (.var 1) .none) [
    .ret (.list [])] [],
  .ret (.bcall .list [(.attr (.var 1) "items")])]
noncomputable def f_kind_order.tbl : List (Option Str) := [some "kind", some "kinds"]
noncomputable def f_kind_order.ms : List MS := [
  .asg 1 (.tup [(.str "NULL"), (.str "logical"), (.str "integer"), (.str "double"), (.str "character"), (.str "list"), (.str "expression")]),
  .ite (.cmp .In (.var 0) (.var 1)) [
    .ret (.meth .tindex (.var 1) [(.var 0)])] [],
  .ret (.int 5)]
noncomputable def f_common_kind.tbl : List (Option Str) := [some "kinds", some "names", some "most", some "kind"]
noncomputable def f_common_kind.ms : List MS := [
  .asg 1 (.tup [(.str "NULL"), (.str "logical"), (.str "integer"), (.str "double"), (.str "character"), (.str "list"), (.str "expression")]),
  .asg 2 (.int 0),
  .forI 3 (.var 0) [
    .asg 2 (.bcall .max [(.var 2), (.call "kind_order" 414 [(.var 3)])])],
  .ret (.idx (.var 1) (.var 2))]
noncomputable def f_to_double.tbl : List (Option Str) := [some "kind", some "item", some "notes"]
noncomputable def f_to_double.ms : List MS := [
  .ite (.bop .Or [(.cmp .Eq (.var 0) (.str "double")), (.cmp .Is (.var 1) .none)]) [
    .ret (.var 1)] [],
  .ite (.cmp .Eq (.var 0) (.str "character")) [
    .ret .opq] [],
  .ret (.call "from_int" 45 [(.var 1)])]
noncomputable def f_item_as.tbl : List (Option Str) := [some "kind", some "item", some "to", some "notes"]
noncomputable def f_item_as.ms : List MS := [
  .ite (.cmp .Eq (.var 0) (.var 2)) [
    .ret (.var 1)] [],
  .ite (.bop .Or [(.cmp .Eq (.var 2) (.str "list")), (.cmp .Eq (.var 2) (.str "expression")), (.cmp .Eq (.var 2) (.str "pairlist"))]) [
    .ret (.ite (.call "is_atomic_kind" 491 [(.var 0)]) (.call "share" 357 [(.call "Vector" 311 [(.var 0), (.list [(.var 1)])])]) (.var 1))] [],
  .ite (.not (.call "is_atomic_kind" 491 [(.var 0)])) [
    .ret .opq] [],
  .ite (.cmp .Eq (.var 2) (.str "logical")) [
    .ret .opq] [],
  .ite (.cmp .Eq (.var 2) (.str "integer")) [
    .ret .opq] [],
  .ite (.cmp .Eq (.var 2) (.str "double")) [
    .ret (.call "to_double" 470 [(.var 0), (.var 1), (.var 3)])] [],
  .ret .opq]
noncomputable def f_is_atomic_kind.tbl : List (Option Str) := [some "kind"]
noncomputable def f_is_atomic_kind.ms : List MS := [
  .ret (.cmp .In (.var 0) (.tup [(.str "logical"), (.str "integer"), (.str "double"), (.str "character")]))]
noncomputable def f_as_kind.tbl : List (Option Str) := [some "v", some "kind", some "notes", some "items"]
noncomputable def f_as_kind.ms : List MS := [
  .ite (.not (.isv (.var 0))) [
    .ret .opq] [],
  .asg 3 (.attr (.var 0) "items"),
  .ite (.cmp .NotEq (.attr (.var 0) "kind") (.var 1)) [
    .asgF 3 (.comp (.call "item_as" 484 [(.attr (.var 0) "kind"), (.var 4), (.var 1), (.var 2)]) (.attr (.var 0) "items") none),
    .frz 3] [],
  .ret (.call "with_names" 517 [(.call "Vector" 311 [(.var 1), (.bcall .list [(.var 3)])]), (.call "names_of" 388 [(.var 0)])])]
noncomputable def f_with_names.tbl : List (Option Str) := [some "v", some "names"]
noncomputable def f_with_names.ms : List MS := [
  .ite (.cmp .IsNot (.var 1) .none) [
    .opq] [],
  .ret (.var 0)]
noncomputable def f_is_lacking.tbl : List (Option Str) := [some "kind", some "item"]
noncomputable def f_is_lacking.ms : List MS := [
  .ret (.bop .Or [(.cmp .Is (.var 1) .none), (.bop .And [(.cmp .Eq (.var 0) (.str "double")), (.cmp .Eq (.var 1) (.tup [(.int 0), (.int 0)]))])])]
noncomputable def f_compare_items.tbl : List (Option Str) := [some "kind", some "a", some "b"]
noncomputable def f_compare_items.ms : List MS := [
  .ite (.cmp .Eq (.var 0) (.str "double")) [
    .ret .opq] [],
  .ite (.cmp .Lt (.var 1) (.var 2)) [
    .ret (.neg (.int 1))] [],
  .ite (.cmp .Gt (.var 1) (.var 2)) [
    .ret (.int 1)] [],
  .ret (.int 0)]
noncomputable def f_check_sortable.tbl : List (Option Str) := [some "v"]
noncomputable def f_check_sortable.ms : List MS := [
  .ite (.cmp .NotIn (.attr (.var 0) "kind") (.tup [(.str "logical"), (.str "integer"), (.str "double"), (.str "character")])) [
    .opq] []]
noncomputable def f_compare_places.tbl : List (Option Str) := [some "v", some "i", some "j", some "decreasing", some "na_last", some "left", some "right", some "left_lacking", some "right_lacking", some "result"]
noncomputable def f_compare_places.ms : List MS := [
  .asg 5 (.idx (.attr (.var 0) "items") (.var 1)),
  .asg 6 (.idx (.attr (.var 0) "items") (.var 2)),
  .asg 7 (.call "is_lacking" 536 [(.attr (.var 0) "kind"), (.var 5)]),
  .asg 8 (.call "is_lacking" 536 [(.attr (.var 0) "kind"), (.var 6)]),
  .ite (.bop .And [(.var 7), (.var 8)]) [
    .ret (.int 0)] [],
  .ite (.var 7) [
    .ret (.ite (.var 4) (.int 1) (.neg (.int 1)))] [],
  .ite (.var 8) [
    .ret (.ite (.var 4) (.neg (.int 1)) (.int 1))] [],
  .asg 9 (.call "compare_items" 543 [(.attr (.var 0) "kind"), (.var 5), (.var 6)]),
  .ret (.ite (.var 3) (.neg (.var 9)) (.var 9))]
noncomputable def f_compare_keys.tbl : List (Option Str) := [some "vs", some "i", some "j", some "decreasing", some "na_last", some "number", some "result"]
noncomputable def f_compare_keys.ms : List MS := [
  .forI 5 (.bcall .range [(.bcall .len [(.var 0)])]) [
    .asg 6 (.call "compare_places" 557 [(.idx (.var 0) (.var 5)), (.var 1), (.var 2), (.idx (.var 3) (.var 5)), (.var 4)]),
    .ite (.cmp .NotEq (.var 6) (.int 0)) [
      .ret (.var 6)] []],
  .ret (.int 0)]
noncomputable def f_merge_runs.tbl : List (Option Str) := [some "left", some "right", some "vs", some "decreasing", some "na_last", some "merged", some "i", some "j"]
noncomputable def f_merge_runs.ms : List MS := [
  .asgF 5 (.list []),
  .asg 6 (.int 0),
  .asg 7 (.int 0),
  .whl 64 (.bop .And [(.cmp .Lt (.var 6) (.bcall .len [(.var 0)])), (.cmp .Lt (.var 7) (.bcall .len [(.var 1)]))]) [
    .ite (.cmp .LtE (.call "compare_keys" 564 [(.var 2), (.idx (.var 0) (.var 6)), (.idx (.var 1) (.var 7)), (.var 3), (.var 4)]) (.int 0)) [
      .app 5 (.idx (.var 0) (.var 6)),
      .aug 6 (.int 1)] [
      .app 5 (.idx (.var 1) (.var 7)),
      .aug 7 (.int 1)]],
  .frz 5,
  .ret (.bin .Add (.bin .Add (.var 5) (.slc (.var 0) (some (.var 6)) none)) (.slc (.var 1) (some (.var 7)) none))]
noncomputable def f_merge_sort.tbl : List (Option Str) := [some "places", some "vs", some "decreasing", some "na_last", some "runs", some "longer", some "at"]
noncomputable def f_merge_sort.ms : List MS := [
  .asgF 4 (.comp (.list [(.var 7)]) (.var 0) none),
  .frz 4,
  .ite (.cmp .Eq (.bcall .len [(.var 4)]) (.int 0)) [
    .ret (.list [])] [],
  .whl 64 (.cmp .Gt (.bcall .len [(.var 4)]) (.int 1)) [
    .asgF 5 (.list []),
    .forI 6 (.bcall .range [(.int 0), (.bin .Sub (.bcall .len [(.var 4)]) (.int 1)), (.int 2)]) [
      .app 5 (.call "merge_runs" 571 [(.idx (.var 4) (.var 6)), (.idx (.var 4) (.bin .Add (.var 6) (.int 1))), (.var 1), (.var 2), (.var 3)])],
    .ite (.cmp .Eq (.bin .Mod (.bcall .len [(.var 4)]) (.int 2)) (.int 1)) [
      .app 5 (.idx (.var 4) (.neg (.int 1)))] [],
    .frz 5,
    .asg 4 (.var 5)],
  .ret (.idx (.var 4) (.int 0))]
noncomputable def f_each_key.tbl : List (Option Str) := [some "decreasing", some "count"]
noncomputable def f_each_key.ms : List MS := [
  .ite (.isl (.var 0)) [
    .ret (.comp (.idx (.var 0) (.bin .Mod (.var 2) (.bcall .len [(.var 0)]))) (.bcall .range [(.var 1)]) none)] [],
  .ret (.bin .Mult (.list [(.var 0)]) (.var 1))]
noncomputable def f_kept_places.tbl : List (Option Str) := [some "vs", some "na_last", some "places", some "place", some "keep", some "v"]
noncomputable def f_kept_places.ms : List MS := [
  .asgF 2 (.list []),
  .forI 3 (.bcall .range [(.call "length" 343 [(.idx (.var 0) (.int 0))])]) [
    .asg 4 (.bool true),
    .ite (.cmp .Is (.var 1) .none) [
      .forI 5 (.var 0) [
        .ite (.call "is_lacking" 536 [(.attr (.var 5) "kind"), (.idx (.attr (.var 5) "items") (.var 3))]) [
          .asg 4 (.bool false)] []]] [],
    .ite (.var 4) [
      .app 2 (.var 3)] []],
  .frz 2,
  .ret (.var 2)]
noncomputable def f_order_by.tbl : List (Option Str) := [some "vs", some "decreasing", some "na_last", some "v", some "flags"]
noncomputable def f_order_by.ms : List MS := [
  .ite (.cmp .Eq (.bcall .len [(.var 0)]) (.int 0)) [
    .ret (.list [])] [],
  .forI 3 (.var 0) [
    .exp (.call "check_sortable" 550 [(.var 3)]),
    .ite (.cmp .NotEq (.call "length" 343 [(.var 3)]) (.call "length" 343 [(.idx (.var 0) (.int 0))])) [
      .opq] []],
  .asg 4 (.call "each_key" 581 [(.var 1), (.bcall .len [(.var 0)])]),
  .ret (.call "merge_sort" 576 [(.call "kept_places" 588 [(.var 0), (.var 2)]), (.var 0), (.var 4), (.bop .Or [(.cmp .Is (.var 2) .none), (.var 2)])])]
noncomputable def f_is_factor.tbl : List (Option Str) := [some "v"]
noncomputable def f_is_factor.ms : List MS := [
  .ret (.bop .And [(.cmp .Eq (.attr (.var 0) "kind") (.str "integer")), (.cmp .In (.str "factor") (.call "class_attr" 407 [(.var 0)])), (.cmp .In (.str "levels") (.attr (.var 0) "attrs")), .opq])]
noncomputable def f_new_frame.tbl : List (Option Str) := [some "columns", some "names", some "row_labels", some "made"]
noncomputable def f_new_frame.ms : List MS := [
  .newV 3 [(.str "list"), (.comp (.call "share" 357 [(.var 4)]) (.var 0) none)],
  .setA 3 (.dict ["names", "class", "row.names"] [(.call "character" 336 [(.var 1)]), (.call "character" 336 [(.list [(.str "data.frame")])]), (.var 2)]),
  .frz 3,
  .ret (.var 3)]
noncomputable def f_plain_rows.tbl : List (Option Str) := [some "count"]
noncomputable def f_plain_rows.ms : List MS := [
  .ret (.call "integer" 329 [(.bcall .list [(.bcall .range [(.int 1), (.bin .Add (.var 0) (.int 1))])])])]
noncomputable def f_frame_rows.tbl : List (Option Str) := [some "df"]
noncomputable def f_frame_rows.ms : List MS := [
  .ite (.bop .Or [(.cmp .Is (.attr (.var 0) "attrs") .none), (.cmp .NotIn (.str "row.names") (.attr (.var 0) "attrs"))]) [
    .ret (.int 0)] [],
  .ret (.bcall .len [(.attr (.idx (.attr (.var 0) "attrs") (.str "row.names")) "items")])]
noncomputable def f_column_names.tbl : List (Option Str) := [some "df", some "names"]
noncomputable def f_column_names.ms : List MS := [
  .asg 1 (.call "names_of" 388 [(.var 0)]),
  .ret (.ite (.cmp .Is (.var 1) .none) (.list []) (.comp (.ite (.cmp .Is (.var 2) .none) (.str "NA") (.var 2)) (.var 1) none))]
noncomputable def f_kept_attrs.tbl : List (Option Str) := [some "column", some "kept", some "name"]
noncomputable def f_kept_attrs.ms : List MS := [
  .ite (.cmp .Is (.attr (.var 0) "attrs") .none) [
    .ret .none] [],
  .asgD 1,
  .forI 2 (.attr (.var 0) "attrs") [
    .ite (.cmp .NotIn (.var 2) (.tup [(.str "names"), (.str "dim"), (.str "dimnames")])) [
      .put 1 (.var 2) (.idx (.attr (.var 0) "attrs") (.var 2))] []],
  .frz 1,
  .ret (.ite (.cmp .Gt (.bcall .len [(.var 1)]) (.int 0)) (.var 1) .none)]
noncomputable def f_lacking.tbl : List (Option Str) := [some "kind"]
noncomputable def f_lacking.ms : List MS := [
  .ite (.cmp .In (.var 0) (.tup [(.str "list"), (.str "expression"), (.str "pairlist")])) [
    .ret .opq] [],
  .ret .none]
noncomputable def f_pick_items.tbl : List (Option Str) := [some "column", some "places", some "items", some "count", some "place"]
noncomputable def f_pick_items.ms : List MS := [
  .asgF 2 (.list []),
  .asg 3 (.bcall .len [(.attr (.var 0) "items")]),
  .forI 4 (.var 1) [
    .ite (.bop .Or [(.cmp .Is (.var 4) .none), (.cmp .GtE (.var 4) (.var 3))]) [
      .app 2 (.call "lacking" 641 [(.attr (.var 0) "kind")])] [
      .app 2 (.idx (.attr (.var 0) "items") (.var 4))]],
  .frz 2,
  .ret (.call "Vector" 311 [(.attr (.var 0) "kind"), (.var 2), (.call "kept_attrs" 634 [(.var 0)])])]
noncomputable def f_joined_column.tbl : List (Option Str) := [some "parts", some "plain", some "part", some "kind", some "items"]
noncomputable def f_joined_column.ms : List MS := [
  .ite (.call "is_factor" 603 [(.idx (.var 0) (.int 0))]) [
    .ret .opq] [],
  .asgF 1 (.list []),
  .forI 2 (.var 0) [
    .app 1 (.ite (.call "is_factor" 603 [(.var 2)]) (.call "character" 336 [(.call "label_texts" 383 [(.var 2)])]) (.var 2))],
  .frz 1,
  .asg 3 (.call "common_kind" 421 [(.comp (.attr (.var 5) "kind") (.var 1) none)]),
  .asgF 4 (.list []),
  .forI 2 (.var 1) [
    .ite (.cmp .Eq (.attr (.var 2) "kind") (.var 3)) [
      .ext 4 (.attr (.var 2) "items")] [
      .ite (.cmp .Eq (.var 3) (.str "list")) [
        .ext 4 (.attr .opq "items")] [
        .ext 4 (.attr (.call "as_kind" 522 [(.var 2), (.var 3), (.list [])]) "items")]]],
  .frz 4,
  .ret (.call "Vector" 311 [(.var 3), (.var 4), (.call "kept_attrs" 634 [(.idx (.var 0) (.int 0))])])]
noncomputable def f_column_keys.tbl : List (Option Str) := [some "column", some "numbers"]
noncomputable def f_column_keys.ms : List MS := [
  .ite (.bop .Or [(.call "is_factor" 603 [(.var 0)]), (.cmp .In (.attr (.var 0) "kind") (.tup [(.str "character"), (.str "logical")]))]) [
    .ret (.comp (.ite (.cmp .Is (.var 2) .none) (.str "NA") (.bin .Add (.str "=") (.var 2))) (.call "label_texts" 383 [(.var 0)]) none)] [],
  .ite (.cmp .In (.attr (.var 0) "kind") (.tup [(.str "integer"), (.str "double")])) [
    .asg 1 (.attr (.call "as_kind" 522 [(.var 0), (.str "double"), (.list [])]) "items"),
    .ret (.comp (.ite (.cmp .Is (.var 2) .none) (.str "NA") (.bin .Add (.str "=") (.call "exact_text" 191 [(.var 2)]))) (.var 1) none)] [],
  .opq]
noncomputable def f_row_keys.tbl : List (Option Str) := [some "columns", some "rows", some "parts", some "found", some "place"]
noncomputable def f_row_keys.ms : List MS := [
  .asgF 2 (.comp (.call "column_keys" 665 [(.var 5)]) (.var 0) none),
  .frz 2,
  .asgF 3 (.list []),
  .forI 4 (.bcall .range [(.var 1)]) [
    .app 3 (.meth .join (.str "") [(.comp (.fstr [(.bcall .len [(.idx (.var 5) (.var 4))]), (.str ":"), (.idx (.var 5) (.var 4))]) (.var 2) none)])],
  .frz 3,
  .ret (.var 3)]
noncomputable def f_check_by.tbl : List (Option Str) := [some "df", some "by", some "names", some "places", some "name"]
noncomputable def f_check_by.ms : List MS := [
  .asg 2 (.call "column_names" 627 [(.var 0)]),
  .asgF 3 (.list []),
  .forI 4 (.var 1) [
    .ite (.cmp .NotEq (.meth .count (.var 2) [(.var 4)]) (.int 1)) [
      .opq] [],
    .app 3 (.meth .lindex (.var 2) [(.var 4)])],
  .frz 3,
  .ret (.var 3)]
noncomputable def f_matched_pairs.tbl : List (Option Str) := [some "x_keys", some "y_keys", some "table", some "place", some "pairs", some "other"]
noncomputable def f_matched_pairs.ms : List MS := [
  .asgD 2,
  .forI 3 (.bcall .range [(.bcall .len [(.var 1)])]) [
    .setd 2 (.idx (.var 1) (.var 3)) (.var 3)],
  .frz 2,
  .asgF 4 (.list []),
  .forI 3 (.bcall .range [(.bcall .len [(.var 0)])]) [
    .forI 5 (.meth .get (.var 2) [(.idx (.var 0) (.var 3)), (.list [])]) [
      .app 4 (.tup [(.var 3), (.var 5)])]],
  .retO 4]
noncomputable def f_lone_places.tbl : List (Option Str) := [some "keys", some "others", some "known", some "key"]
noncomputable def f_lone_places.ms : List MS := [
  .asgD 2,
  .forI 3 (.var 1) [
    .put 2 (.var 3) (.bool true)],
  .frz 2,
  .ret (.comp (.var 4) (.bcall .range [(.bcall .len [(.var 0)])]) (some (.cmp .NotIn (.idx (.var 0) (.var 4)) (.var 2))))]
noncomputable def f_all_pairs.tbl : List (Option Str) := [some "first", some "second", some "pairs", some "other", some "place"]
noncomputable def f_all_pairs.ms : List MS := [
  .exp (.call "room" 322 [(.bin .Mult (.var 0) (.var 1))]),
  .asgF 2 (.list []),
  .forI 3 (.bcall .range [(.var 1)]) [
    .forI 4 (.bcall .range [(.var 0)]) [
      .app 2 (.tup [(.var 4), (.var 3)])]],
  .frz 2,
  .ret (.var 2)]
noncomputable def f_merged_pairs.tbl : List (Option Str) := [some "x_keys", some "y_keys", some "all_x", some "all_y", some "pairs", some "place"]
noncomputable def f_merged_pairs.ms : List MS := [
  .asgK 4 "matched_pairs" 684 [(.var 0), (.var 1)],
  .ite (.var 2) [
    .forI 5 (.call "lone_places" 689 [(.var 0), (.var 1)]) [
      .app 4 (.tup [(.var 5), .none])]] [],
  .ite (.var 3) [
    .forI 5 (.call "lone_places" 689 [(.var 1), (.var 0)]) [
      .app 4 (.tup [.none, (.var 5)])]] [],
  .frz 4,
  .ret (.var 4)]
noncomputable def f_key_column.tbl : List (Option Str) := [some "x", some "y", some "pairs", some "joined", some "count", some "places", some "place", some "other"]
noncomputable def f_key_column.ms : List MS := [
  .asg 3 (.call "joined_column" 660 [(.list [(.var 0), (.var 1)])]),
  .asg 4 (.bcall .len [(.attr (.var 0) "items")]),
  .asgF 5 (.list []),
  .forU [6, 7] (.var 2) [
    .app 5 (.ite (.cmp .Is (.var 6) .none) (.bin .Add (.var 4) (.var 7)) (.var 6))],
  .frz 5,
  .ret (.call "pick_items" 648 [(.var 3), (.var 5)])]
noncomputable def f_other_names.tbl : List (Option Str) := [some "names", some "others", some "by", some "suffix", some "found", some "name"]
noncomputable def f_other_names.ms : List MS := [
  .asgF 4 (.list []),
  .forI 5 (.var 0) [
    .ite (.cmp .NotIn (.var 5) (.var 2)) [
      .app 4 (.ite (.cmp .In (.var 5) (.var 1)) (.bin .Add (.var 5) (.var 3)) (.var 5))] []],
  .frz 4,
  .ret (.var 4)]
noncomputable def f_sort_key.tbl : List (Option Str) := [some "column"]
noncomputable def f_sort_key.ms : List MS := [
  .ret (.call "Vector" 311 [(.attr (.var 0) "kind"), (.attr (.var 0) "items")])]
noncomputable def f_merge_order.tbl : List (Option Str) := [some "columns", some "by_columns", some "rows", some "texts", some "place", some "parts"]
noncomputable def f_merge_order.ms : List MS := [
  .ite (.bop .Or [(.var 1), (.bop .And [(.cmp .Eq (.bcall .len [(.var 0)]) (.int 1)), (.not (.call "is_factor" 603 [(.idx (.var 0) (.int 0))]))])]) [
    .ret (.comp (.call "sort_key" 724 [(.var 6)]) (.var 0) none)] [],
  .ite (.cmp .Eq (.bcall .len [(.var 0)]) (.int 1)) [
    .ret (.list [(.call "character" 336 [(.call "label_texts" 383 [(.idx (.var 0) (.int 0))])])])] [],
  .asgF 2 (.list []),
  .asgF 3 (.comp (.call "label_texts" 383 [(.var 6)]) (.var 0) none),
  .frz 3,
  .forI 4 (.bcall .range [(.bcall .len [(.attr (.idx (.var 0) (.int 0)) "items")])]) [
    .asgF 5 (.comp (.idx (.var 6) (.var 4)) (.var 3) none),
    .frz 5,
    .app 2 (.meth .join (.str "\r") [(.comp (.ite (.cmp .Is (.var 6) .none) (.str "NA") (.var 6)) (.var 5) none)])],
  .frz 2,
  .ret (.list [(.call "character" 336 [(.var 2)])])]
noncomputable def f_merge_frames.tbl : List (Option Str) := [some "x", some "y", some "by", some "all_x", some "all_y", some "suffixes", some "ordered", some "x_places", some "y_places", some "pairs", some "x_keys", some "y_keys", some "columns", some "step", some "order", some "x_names", some "y_names", some "place", some "names"]
noncomputable def f_merge_frames.ms : List MS := [
  .asg 7 (.call "check_by" 677 [(.var 0), (.var 2)]),
  .asg 8 (.call "check_by" 677 [(.var 1), (.var 2)]),
  .ite (.cmp .Eq (.bcall .len [(.var 2)]) (.int 0)) [
    .asg 9 (.call "all_pairs" 696 [(.call "frame_rows" 622 [(.var 0)]), (.call "frame_rows" 622 [(.var 1)])])] [
    .asg 10 (.call "row_keys" 670 [(.comp (.idx (.attr (.var 0) "items") (.var 19)) (.var 7) none), (.call "frame_rows" 622 [(.var 0)])]),
    .asg 11 (.call "row_keys" 670 [(.comp (.idx (.attr (.var 1) "items") (.var 19)) (.var 8) none), (.call "frame_rows" 622 [(.var 1)])]),
    .asg 9 (.call "merged_pairs" 703 [(.var 10), (.var 11), (.var 3), (.var 4)])],
  .asgF 12 (.list []),
  .forI 13 (.bcall .range [(.bcall .len [(.var 2)])]) [
    .app 12 (.call "key_column" 710 [(.idx (.attr (.var 0) "items") (.idx (.var 7) (.var 13))), (.idx (.attr (.var 1) "items") (.idx (.var 8) (.var 13))), (.var 9)])],
  .ite (.bop .And [(.cmp .Gt (.bcall .len [(.var 2)]) (.int 0)), (.var 6)]) [
    .frz 12,
    .asg 14 (.call "order_by" 596 [(.call "merge_order" 729 [(.var 12), (.bop .Or [(.var 3), (.var 4)])])]),
    .asgF 9 (.comp (.idx (.var 9) (.var 19)) (.var 14) none),
    .frz 9,
    .asgF 12 (.comp (.call "pick_items" 648 [(.var 19), (.var 14)]) (.var 12) none)] [],
  .asg 15 (.call "column_names" 627 [(.var 0)]),
  .asg 16 (.call "column_names" 627 [(.var 1)]),
  .forI 17 (.bcall .range [(.bcall .len [(.var 15)])]) [
    .ite (.cmp .NotIn (.var 17) (.var 7)) [
      .app 12 (.call "pick_items" 648 [(.idx (.attr (.var 0) "items") (.var 17)), (.comp (.idx (.var 19) (.int 0)) (.var 9) none)])] []],
  .forI 17 (.bcall .range [(.bcall .len [(.var 16)])]) [
    .ite (.cmp .NotIn (.var 17) (.var 8)) [
      .app 12 (.call "pick_items" 648 [(.idx (.attr (.var 1) "items") (.var 17)), (.comp (.idx (.var 19) (.int 1)) (.var 9) none)])] []],
  .frz 12,
  .asg 18 (.bin .Add (.bcall .list [(.var 2)]) (.call "other_names" 717 [(.var 15), (.var 16), (.var 2), (.idx (.var 5) (.int 0))])),
  .asg 18 (.bin .Add (.var 18) (.call "other_names" 717 [(.var 16), (.var 15), (.var 2), (.idx (.var 5) (.int 1))])),
  .ret (.call "new_frame" 608 [(.var 12), (.var 18), (.call "plain_rows" 615 [(.bcall .len [(.var 9)])])])]
noncomputable def f_law_stream.tbl : List (Option Str) := [some "script", some "row", some "cell", some "grain", some "each"]
noncomputable def f_law_stream.ms : List MS := [
  .asgF 1 (.list []),
  .forI 2 (.slc (.var 0) none (some (.int 40))) [
    .app 1 (.bin .Mod (.bcall .int [(.var 2)]) (.int 3001))],
  .asg 3 (.bin .Add (.int 7) (.bcall .len [(.var 1)])),
  .forL 1 4 3 (.bin .Mod (.bin .Add (.bin .Mult (.var 3) (.int 3)) (.var 4)) (.int 3001)),
  .whl 64 (.cmp .Lt (.bcall .len [(.var 1)]) (.int 40)) [
    .asg 3 (.bin .Mod (.bin .Add (.bin .Mult (.var 3) (.int 1201)) (.int 337)) (.int 3001)),
    .app 1 (.var 3)],
  .frz 1,
  .ret (.var 1)]
noncomputable def f_law_side.tbl : List (Option Str) := [some "row", some "spoken", some "base", some "head", some "tall", some "key_items", some "each", some "figure", some "keys_at", some "further", some "row_marks"]
noncomputable def f_law_side.ms : List MS := [
  .asg 4 (.bin .Mod (.idx (.var 0) (.int 0)) (.int 6)),
  .asgF 5 (.list []),
  .forI 6 (.bcall .range [(.var 4)]) [
    .asg 7 (.bin .Mod (.idx (.var 0) (.bin .Add (.int 1) (.var 6))) (.int 5)),
    .ite (.cmp .Eq (.var 7) (.int 4)) [
      .app 5 .none] [
      .ite (.var 1) [
        .app 5 (.idx (.list [(.str "kiwi"), (.str "fig"), (.str "pear"), (.str "date")]) (.var 7))] [
        .app 5 (.idx (.list [(.int 30), (.neg (.int 2)), (.int 7), (.int 100)]) (.var 7))]]],
  .frz 5,
  .asg 8 (.call "Vector" 311 [(.ite (.var 1) (.str "character") (.str "integer")), (.bcall .list [(.var 5)])]),
  .asg 9 (.call "Vector" 311 [(.str "integer"), (.comp (.bin .Add (.var 2) (.var 11)) (.bcall .range [(.var 4)]) none)]),
  .asg 10 (.call "Vector" 311 [(.str "integer"), (.bcall .list [(.bcall .range [(.int 1), (.bin .Add (.var 4) (.int 1))])])]),
  .ret (.tup [(.var 5), (.call "new_frame" 608 [(.list [(.var 8), (.var 9)]), (.list [(.str "k"), (.var 3)]), (.var 10)])])]
noncomputable def f_law_lines.tbl : List (Option Str) := [some "made", some "exchanged", some "lines", some "each", some "line"]
noncomputable def f_law_lines.ms : List MS := [
  .asgF 2 (.list []),
  .forI 3 (.bcall .range [(.bcall .len [(.attr (.idx (.attr (.var 0) "items") (.int 0)) "items")])]) [
    .asgF 4 (.comp (.idx (.attr (.var 5) "items") (.var 3)) (.attr (.var 0) "items") none),
    .frz 4,
    .ite (.var 1) [
      .asg 4 (.bin .Add (.slc (.var 4) none (some (.neg (.int 2)))) (.list [(.idx (.var 4) (.neg (.int 1))), (.idx (.var 4) (.neg (.int 2)))]))] [],
    .app 2 (.bcall .str [(.var 4)])],
  .frz 2,
  .ret (.var 2)]
noncomputable def f_law_ascends.tbl : List (Option Str) := [some "items", some "there"]
noncomputable def f_law_ascends.ms : List MS := [
  .asgF 1 (.comp (.var 2) (.var 0) (some (.cmp .IsNot (.var 2) .none))),
  .frz 1,
  .ret (.bop .And [(.cmp .Eq (.var 1) (.bcall .sorted [(.var 1)])), (.cmp .Eq (.slc (.var 0) (some (.bcall .len [(.var 1)])) none) (.bin .Mult (.list [.none]) (.bin .Sub (.bcall .len [(.var 0)]) (.bcall .len [(.var 1)]))))])]
noncomputable def f_law.tbl : List (Option Str) := [some "script", some "row", some "spoken", some "alike", some "left_keys", some "left", some "right_keys", some "right", some "inner_count", some "item", some "lone_left", some "lone_right", some "inner_lines", some "keep_left", some "keep_right", some "made", some "back", some "lines", some "due", some "heads", some "loose_rows", some "pairs_made", some "dues", some "other", some "each"]
noncomputable def f_law.ms : List MS := [
  .asg 1 (.call "_law_stream" 742 [(.var 0)]),
  .asg 2 (.cmp .Eq (.bin .Mod (.idx (.var 1) (.int 0)) (.int 2)) (.int 1)),
  .asg 3 (.cmp .Eq (.bin .Mod (.idx (.var 1) (.int 1)) (.int 2)) (.int 1)),
  .unp [4, 5] (.call "_law_side" 747 [(.slc (.var 1) (some (.int 2)) (some (.int 12))), (.var 2), (.int 10), (.str "v")]),
  .unp [6, 7] (.call "_law_side" 747 [(.slc (.var 1) (some (.int 12)) (some (.int 22))), (.var 2), (.int 20), (.ite (.var 3) (.str "v") (.str "w"))]),
  .asg 8 (.int 0),
  .forI 9 (.var 4) [
    .aug 8 (.meth .count (.var 6) [(.var 9)])],
  .asg 10 (.bcall .len [(.comp (.var 25) (.var 4) (some (.cmp .NotIn (.var 25) (.var 6))))]),
  .asg 11 (.bcall .len [(.comp (.var 25) (.var 6) (some (.cmp .NotIn (.var 25) (.var 4))))]),
  .asg 12 (.bcall .sorted [(.call "_law_lines" 752 [(.call "merge_frames" 735 [(.var 5), (.var 7), (.list [(.str "k")]), (.bool false), (.bool false), (.list [(.str ".x"), (.str ".y")])]), (.bool false)])]),
  .ite (.cmp .NotEq (.bcall .len [(.var 12)]) (.var 8)) [
    .ret (.bool false)] [],
  .forI 13 (.list [(.bool false), (.bool true)]) [
    .forI 14 (.list [(.bool false), (.bool true)]) [
      .asg 15 (.call "merge_frames" 735 [(.var 5), (.var 7), (.list [(.str "k")]), (.var 13), (.var 14), (.list [(.str ".one"), (.str ".two")])]),
      .asg 16 (.call "merge_frames" 735 [(.var 7), (.var 5), (.list [(.str "k")]), (.var 14), (.var 13), (.list [(.str ".two"), (.str ".one")])]),
      .asg 17 (.call "_law_lines" 752 [(.var 15), (.bool false)]),
      .asg 18 (.bin .Add (.bin .Add (.var 8) (.ite (.var 13) (.var 10) (.int 0))) (.ite (.var 14) (.var 11) (.int 0))),
      .ite (.bop .Or [(.cmp .NotEq (.bcall .len [(.var 17)]) (.var 18)), (.cmp .NotEq (.bcall .sorted [(.var 17)]) (.bcall .sorted [(.call "_law_lines" 752 [(.var 16), (.bool true)])]))]) [
        .ret (.bool false)] [],
      .ite (.cmp .NotEq (.comp (.var 25) (.var 12) (some (.cmp .NotIn (.var 25) (.var 17)))) (.list [])) [
        .ret (.bool false)] [],
      .ite (.bop .Or [(.not (.call "_law_ascends" 757 [(.attr (.idx (.attr (.var 15) "items") (.int 0)) "items")])), (.not (.call "_law_ascends" 757 [(.attr (.idx (.attr (.var 16) "items") (.int 0)) "items")]))]) [
        .ret (.bool false)] [],
      .asg 19 (.ite (.var 3) (.list [(.str "k"), (.str "v.one"), (.str "v.two")]) (.list [(.str "k"), (.str "v"), (.str "w")])),
      .ite (.bop .Or [(.cmp .NotEq (.attr (.idx (.attr (.var 15) "attrs") (.str "names")) "items") (.var 19)), (.cmp .NotEq (.attr (.idx (.attr (.var 16) "attrs") (.str "names")) "items") (.list [(.idx (.var 19) (.int 0)), (.idx (.var 19) (.int 2)), (.idx (.var 19) (.int 1))]))]) [
        .ret (.bool false)] [],
      .ite (.cmp .NotEq (.attr (.idx (.attr (.var 15) "attrs") (.str "row.names")) "items") (.bcall .list [(.bcall .range [(.int 1), (.bin .Add (.var 18) (.int 1))])])) [
        .ret (.bool false)] [],
      .asg 20 (.call "merge_frames" 735 [(.var 5), (.var 7), (.list [(.str "k")]), (.var 13), (.var 14), (.list [(.str ".one"), (.str ".two")]), (.bool false)]),
      .ite (.cmp .NotEq (.bcall .sorted [(.call "_law_lines" 752 [(.var 20), (.bool false)])]) (.bcall .sorted [(.var 17)])) [
        .ret (.bool false)] []]],
  .asg 21 (.call "merge_frames" 735 [(.var 5), (.var 7), (.list []), (.bool false), (.bool false), (.list [(.str ".x"), (.str ".y")])]),
  .ite (.bop .Or [(.cmp .NotEq (.bcall .len [(.attr (.var 21) "items")]) (.int 4)), (.cmp .NotEq (.attr (.idx (.attr (.var 21) "attrs") (.str "names")) "items") (.ite (.var 3) (.list [(.str "k.x"), (.str "v.x"), (.str "k.y"), (.str "v.y")]) (.list [(.str "k.x"), (.str "v"), (.str "k.y"), (.str "w")])))]) [
    .ret (.bool false)] [],
  .asgF 22 (.list []),
  .forI 23 (.bcall .range [(.bcall .len [(.var 6)])]) [
    .forI 24 (.bcall .range [(.bcall .len [(.var 4)])]) [
      .app 22 (.bcall .str [(.list [(.idx (.var 4) (.var 24)), (.bin .Add (.int 10) (.var 24)), (.idx (.var 6) (.var 23)), (.bin .Add (.int 20) (.var 23))])])]],
  .frz 22,
  .ret (.cmp .Eq (.call "_law_lines" 752 [(.var 21), (.bool false)]) (.var 22))]
noncomputable def f_from_int.fe : FE := ⟨45, ["n"], f_from_int.tbl, f_from_int.ms, []⟩
noncomputable def f_special_text.fe : FE := ⟨108, ["x"], f_special_text.tbl, f_special_text.ms, []⟩
noncomputable def f_whole_text.fe : FE := ⟨101, ["n"], f_whole_text.tbl, f_whole_text.ms, []⟩
noncomputable def f_exact_text.fe : FE := ⟨191, ["x"], f_exact_text.tbl, f_exact_text.ms, []⟩
noncomputable def f_room.fe : FE := ⟨322, ["n"], f_room.tbl, f_room.ms, []⟩
noncomputable def f_integer.fe : FE := ⟨329, ["items"], f_integer.tbl, f_integer.ms, []⟩
noncomputable def f_character.fe : FE := ⟨336, ["items"], f_character.tbl, f_character.ms, []⟩
noncomputable def f_length.fe : FE := ⟨343, ["v"], f_length.tbl, f_length.ms, []⟩
noncomputable def f_share.fe : FE := ⟨357, ["v"], f_share.tbl, f_share.ms, []⟩
noncomputable def f_get_attr.fe : FE := ⟨364, ["v", "name"], f_get_attr.tbl, f_get_attr.ms, []⟩
noncomputable def f_label_text.fe : FE := ⟨371, ["kind", "item"], f_label_text.tbl, f_label_text.ms, []⟩
noncomputable def f_label_texts.fe : FE := ⟨383, ["value"], f_label_texts.tbl, f_label_texts.ms, []⟩
noncomputable def f_names_of.fe : FE := ⟨388, ["v"], f_names_of.tbl, f_names_of.ms, []⟩
noncomputable def f_dim_of.fe : FE := ⟨395, ["v"], f_dim_of.tbl, f_dim_of.ms, []⟩
noncomputable def f_class_attr.fe : FE := ⟨407, ["v"], f_class_attr.tbl, f_class_attr.ms, []⟩
noncomputable def f_kind_order.fe : FE := ⟨414, ["kind"], f_kind_order.tbl, f_kind_order.ms, []⟩
noncomputable def f_common_kind.fe : FE := ⟨421, ["kinds"], f_common_kind.tbl, f_common_kind.ms, []⟩
noncomputable def f_to_double.fe : FE := ⟨470, ["kind", "item", "notes"], f_to_double.tbl, f_to_double.ms, []⟩
noncomputable def f_item_as.fe : FE := ⟨484, ["kind", "item", "to", "notes"], f_item_as.tbl, f_item_as.ms, []⟩
noncomputable def f_is_atomic_kind.fe : FE := ⟨491, ["kind"], f_is_atomic_kind.tbl, f_is_atomic_kind.ms, []⟩
noncomputable def f_as_kind.fe : FE := ⟨522, ["v", "kind", "notes"], f_as_kind.tbl, f_as_kind.ms, []⟩
noncomputable def f_with_names.fe : FE := ⟨517, ["v", "names"], f_with_names.tbl, f_with_names.ms, []⟩
noncomputable def f_is_lacking.fe : FE := ⟨536, ["kind", "item"], f_is_lacking.tbl, f_is_lacking.ms, []⟩
noncomputable def f_compare_items.fe : FE := ⟨543, ["kind", "a", "b"], f_compare_items.tbl, f_compare_items.ms, []⟩
noncomputable def f_check_sortable.fe : FE := ⟨550, ["v"], f_check_sortable.tbl, f_check_sortable.ms, []⟩
noncomputable def f_compare_places.fe : FE := ⟨557, ["v", "i", "j", "decreasing", "na_last"], f_compare_places.tbl, f_compare_places.ms, []⟩
noncomputable def f_compare_keys.fe : FE := ⟨564, ["vs", "i", "j", "decreasing", "na_last"], f_compare_keys.tbl, f_compare_keys.ms, []⟩
noncomputable def f_merge_runs.fe : FE := ⟨571, ["left", "right", "vs", "decreasing", "na_last"], f_merge_runs.tbl, f_merge_runs.ms, []⟩
noncomputable def f_merge_sort.fe : FE := ⟨576, ["places", "vs", "decreasing", "na_last"], f_merge_sort.tbl, f_merge_sort.ms, []⟩
noncomputable def f_each_key.fe : FE := ⟨581, ["decreasing", "count"], f_each_key.tbl, f_each_key.ms, []⟩
noncomputable def f_kept_places.fe : FE := ⟨588, ["vs", "na_last"], f_kept_places.tbl, f_kept_places.ms, []⟩
noncomputable def f_order_by.fe : FE := ⟨596, ["vs", "decreasing", "na_last"], f_order_by.tbl, f_order_by.ms, [(.bool false, .bool false), (.bool true, .bool true)]⟩
noncomputable def f_is_factor.fe : FE := ⟨603, ["v"], f_is_factor.tbl, f_is_factor.ms, []⟩
noncomputable def f_new_frame.fe : FE := ⟨608, ["columns", "names", "row_labels"], f_new_frame.tbl, f_new_frame.ms, []⟩
noncomputable def f_plain_rows.fe : FE := ⟨615, ["count"], f_plain_rows.tbl, f_plain_rows.ms, []⟩
noncomputable def f_frame_rows.fe : FE := ⟨622, ["df"], f_frame_rows.tbl, f_frame_rows.ms, []⟩
noncomputable def f_column_names.fe : FE := ⟨627, ["df"], f_column_names.tbl, f_column_names.ms, []⟩
noncomputable def f_kept_attrs.fe : FE := ⟨634, ["column"], f_kept_attrs.tbl, f_kept_attrs.ms, []⟩
noncomputable def f_lacking.fe : FE := ⟨641, ["kind"], f_lacking.tbl, f_lacking.ms, []⟩
noncomputable def f_pick_items.fe : FE := ⟨648, ["column", "places"], f_pick_items.tbl, f_pick_items.ms, []⟩
noncomputable def f_joined_column.fe : FE := ⟨660, ["parts"], f_joined_column.tbl, f_joined_column.ms, []⟩
noncomputable def f_column_keys.fe : FE := ⟨665, ["column"], f_column_keys.tbl, f_column_keys.ms, []⟩
noncomputable def f_row_keys.fe : FE := ⟨670, ["columns", "rows"], f_row_keys.tbl, f_row_keys.ms, []⟩
noncomputable def f_check_by.fe : FE := ⟨677, ["df", "by"], f_check_by.tbl, f_check_by.ms, []⟩
noncomputable def f_matched_pairs.fe : FE := ⟨684, ["x_keys", "y_keys"], f_matched_pairs.tbl, f_matched_pairs.ms, []⟩
noncomputable def f_lone_places.fe : FE := ⟨689, ["keys", "others"], f_lone_places.tbl, f_lone_places.ms, []⟩
noncomputable def f_all_pairs.fe : FE := ⟨696, ["first", "second"], f_all_pairs.tbl, f_all_pairs.ms, []⟩
noncomputable def f_merged_pairs.fe : FE := ⟨703, ["x_keys", "y_keys", "all_x", "all_y"], f_merged_pairs.tbl, f_merged_pairs.ms, []⟩
noncomputable def f_key_column.fe : FE := ⟨710, ["x", "y", "pairs"], f_key_column.tbl, f_key_column.ms, []⟩
noncomputable def f_other_names.fe : FE := ⟨717, ["names", "others", "by", "suffix"], f_other_names.tbl, f_other_names.ms, []⟩
noncomputable def f_sort_key.fe : FE := ⟨724, ["column"], f_sort_key.tbl, f_sort_key.ms, []⟩
noncomputable def f_merge_order.fe : FE := ⟨729, ["columns", "by_columns"], f_merge_order.tbl, f_merge_order.ms, []⟩
noncomputable def f_merge_frames.fe : FE := ⟨735, ["x", "y", "by", "all_x", "all_y", "suffixes", "ordered"], f_merge_frames.tbl, f_merge_frames.ms, [(.bool true, .bool true)]⟩
noncomputable def f_law_stream.fe : FE := ⟨742, ["script"], f_law_stream.tbl, f_law_stream.ms, []⟩
noncomputable def f_law_side.fe : FE := ⟨747, ["row", "spoken", "base", "head"], f_law_side.tbl, f_law_side.ms, []⟩
noncomputable def f_law_lines.fe : FE := ⟨752, ["made", "exchanged"], f_law_lines.tbl, f_law_lines.ms, []⟩
noncomputable def f_law_ascends.fe : FE := ⟨757, ["items"], f_law_ascends.tbl, f_law_ascends.ms, []⟩
noncomputable def f_law.fe : FE := ⟨762, ["script"], f_law.tbl, f_law.ms, []⟩
noncomputable def tab : List FE := [f_from_int.fe, f_special_text.fe, f_whole_text.fe, f_exact_text.fe, f_room.fe, f_integer.fe, f_character.fe, f_length.fe, f_share.fe, f_get_attr.fe, f_label_text.fe, f_label_texts.fe, f_names_of.fe, f_dim_of.fe, f_class_attr.fe, f_kind_order.fe, f_common_kind.fe, f_to_double.fe, f_item_as.fe, f_is_atomic_kind.fe, f_as_kind.fe, f_with_names.fe, f_is_lacking.fe, f_compare_items.fe, f_check_sortable.fe, f_compare_places.fe, f_compare_keys.fe, f_merge_runs.fe, f_merge_sort.fe, f_each_key.fe, f_kept_places.fe, f_order_by.fe, f_is_factor.fe, f_new_frame.fe, f_plain_rows.fe, f_frame_rows.fe, f_column_names.fe, f_kept_attrs.fe, f_lacking.fe, f_pick_items.fe, f_joined_column.fe, f_column_keys.fe, f_row_keys.fe, f_check_by.fe, f_matched_pairs.fe, f_lone_places.fe, f_all_pairs.fe, f_merged_pairs.fe, f_key_column.fe, f_other_names.fe, f_sort_key.fe, f_merge_order.fe, f_merge_frames.fe, f_law_stream.fe, f_law_side.fe, f_law_lines.fe, f_law_ascends.fe, f_law.fe]
noncomputable def globs : List (Str × Value) := [(("from_int" : Str), Value.ref 45), (("special_text" : Str), Value.ref 108), (("whole_text" : Str), Value.ref 101), (("exact_text" : Str), Value.ref 191), (("room" : Str), Value.ref 322), (("integer" : Str), Value.ref 329), (("character" : Str), Value.ref 336), (("length" : Str), Value.ref 343), (("share" : Str), Value.ref 357), (("get_attr" : Str), Value.ref 364), (("label_text" : Str), Value.ref 371), (("label_texts" : Str), Value.ref 383), (("names_of" : Str), Value.ref 388), (("dim_of" : Str), Value.ref 395), (("class_attr" : Str), Value.ref 407), (("kind_order" : Str), Value.ref 414), (("common_kind" : Str), Value.ref 421), (("to_double" : Str), Value.ref 470), (("item_as" : Str), Value.ref 484), (("is_atomic_kind" : Str), Value.ref 491), (("as_kind" : Str), Value.ref 522), (("with_names" : Str), Value.ref 517), (("is_lacking" : Str), Value.ref 536), (("compare_items" : Str), Value.ref 543), (("check_sortable" : Str), Value.ref 550), (("compare_places" : Str), Value.ref 557), (("compare_keys" : Str), Value.ref 564), (("merge_runs" : Str), Value.ref 571), (("merge_sort" : Str), Value.ref 576), (("each_key" : Str), Value.ref 581), (("kept_places" : Str), Value.ref 588), (("order_by" : Str), Value.ref 596), (("is_factor" : Str), Value.ref 603), (("new_frame" : Str), Value.ref 608), (("plain_rows" : Str), Value.ref 615), (("frame_rows" : Str), Value.ref 622), (("column_names" : Str), Value.ref 627), (("kept_attrs" : Str), Value.ref 634), (("lacking" : Str), Value.ref 641), (("pick_items" : Str), Value.ref 648), (("joined_column" : Str), Value.ref 660), (("column_keys" : Str), Value.ref 665), (("row_keys" : Str), Value.ref 670), (("check_by" : Str), Value.ref 677), (("matched_pairs" : Str), Value.ref 684), (("lone_places" : Str), Value.ref 689), (("all_pairs" : Str), Value.ref 696), (("merged_pairs" : Str), Value.ref 703), (("key_column" : Str), Value.ref 710), (("other_names" : Str), Value.ref 717), (("sort_key" : Str), Value.ref 724), (("merge_order" : Str), Value.ref 729), (("merge_frames" : Str), Value.ref 735), (("_law_stream" : Str), Value.ref 742), (("_law_side" : Str), Value.ref 747), (("_law_lines" : Str), Value.ref 752), (("_law_ascends" : Str), Value.ref 757), (("law" : Str), Value.ref 762), (("Vector" : Str), Value.ref 311), (("MOST_LENGTH" : Str), Value.int 1000000 549)]
noncomputable def fill (e : FE) (args : List T) : Option (List T) :=
  if args.length = e.ps.length then some args
  else if args.length + e.ds.length = e.ps.length then some (args ++ e.ds.map (·.2)) else none
noncomputable def runE (ct : Addr → List T → Option T) (e : FE) (args : List T) : Option T := do
  let as ← fill e args
  if freshFns.contains e.a then runFnL ct e.ms e.tbl.length as else runFn ct e.ms e.tbl.length as
noncomputable def vecT : List T → Option T
  | [k, i] => some (.vec k i .none)
  | [k, i, a] => some (.vec k i a)
  | _ => none
noncomputable def ct : Nat → Addr → List T → Option T
  | 0, _, _ => none
  | n + 1, f, args => if f = 311 then vecT args else match tab.find? fun e => e.a == f with
    | some e => runE (ct n) e args
    | none => none
end Mine
end
section
open PySem PySem.W PySem.Calls PyProof.Rows PySem.Spec PySem.SeqAt
set_option genInjectivity false
set_option tactic.hygienic false
namespace Mine
section
variable {c : Cfg} {A : Around} {V V' : View} {F : Addr} {n : Nat} {G : Str → Option Value}
theorem con_vec (O : VecOk c) (IO : IniOk c) {args : List T} {r : T} (h : vecT args = some r) : Con c n (.ref c.VC) args r := by
  intro A V vs hA hvs s E Q hV hQ
  have fin : ∀ (k i a : T) (kv iv av : Value), Is c V k kv → Is c V i iv → Is c V a av → (vs = [kv, iv, av] ∨ (vs = [kv, iv] ∧ av = .none)) → r = .vec k i a → wpAny c.M A (call (.ref c.VC) vs) Q E s := by
    intro k i a kv iv av hk hi ha hvs hr
    refine vec_raw O IO hvs (by have := hA.d; omega) hV fun x dx es m h' tk hV3 vx vd hxd gx gd hvd => ?_
    have hV4 := hV3.add (a := x) (cl := .frz (instObj c.VC dx)) vx gx rfl
    have vd' : (V.set x (.frz (instObj c.VC dx))) dx = none := by rw [View.set_ne _ _ (Ne.symm hxd)]; exact vd
    have hV5 := hV4.add (a := dx) (cl := .vec kv iv av) vd' gd hvd
    have l5 := (VLe.set (c := .frz (instObj c.VC dx)) vx).trans (VLe.set (c := .vec kv iv av) vd')
    exact hQ _ _ h' tk l5 hV5 (hr ▸ ⟨x, dx, kv, iv, av, rfl, VLe.set vd' _ _ (View.set_self ..), View.set_self .., Is.mono l5.toF _ _ hk, Is.mono l5.toF _ _ hi, Is.mono l5.toF _ _ ha⟩)
  unfold vecT at h
  split at h
  · (refine some_el h fun qq => ?_; subst qq; clear h)
    refine Classical.byContradiction fun hCC => ?_
    obtain ⟨kv, _, rq0, hk, iv, _, rq1, hi, rq2⟩ := hvs
    try clear hvs
    subst rq0
    subst rq1
    subst rq2
    refine hCC ?_
    clear hCC
    exact fin _ _ .none kv iv .none hk hi rfl (.inr ⟨rfl, rfl⟩) rfl
  · (refine some_el h fun qq => ?_; subst qq; clear h)
    refine Classical.byContradiction fun hCC => ?_
    obtain ⟨kv, _, rq0, hk, iv, _, rq1, hi, av, _, rq2, ha, rq3⟩ := hvs
    try clear hvs
    subst rq0
    subst rq1
    subst rq2
    subst rq3
    refine hCC ?_
    clear hCC
    exact fin _ _ _ kv iv av hk hi ha (.inl rfl) rfl
  · exact none_el h
structure EOkE (c : Cfg) (G : Str → Option Value) (e : FE) : Prop where
  ex : ∃ fd, fnAt c.K e.a = some fd ∧ okFn G c.K fd e.ps e.tbl e.ms = true ∧ (∀ (s : Shared) (vs : List Value), c.K.In s.heap → vs.length = e.ps.length → BindsTo s fd ⟨vs, []⟩ (e.ps.zip (vs ++ []))) ∧
    (∀ (s : Shared) (vs : List Value), c.K.In s.heap → e.ds ≠ [] → vs.length + e.ds.length = e.ps.length → BindsTo s fd ⟨vs, []⟩ (e.ps.zip (vs ++ e.ds.map (·.1)))) ∧ ∀ V, IsL c V (e.ds.map (·.2)) (e.ds.map (·.1))
theorem fill_some {e : FE} {args as : List T} (h : fill e args = some as) : (args.length = e.ps.length ∧ as = args ++ []) ∨ (e.ds ≠ [] ∧ args.length + e.ds.length = e.ps.length ∧ as = args ++ e.ds.map (·.2)) := by
  unfold fill at h
  split at h
  · rename_i q; (refine some_el h fun qq => ?_; subst qq; clear h); exact .inl ⟨q, by simp⟩
  · rename_i q
    split at h
    · rename_i q'; (refine some_el h fun qq => ?_; subst qq; clear h); exact .inr ⟨fun e0 => q (by rw [e0] at q'; simpa using q'), q', rfl⟩
    · exact none_el h
set_option tactic.hygienic true in
theorem tab_ok (hE : ∀ e ∈ tab, EOkE c G e) (O : VecOk c) (IO : IniOk c) (Gg : Gl c G) (hvc : c.VC = 311) : ∀ n, TOk c n (ct n) ∧ ∀ f args l, freshFns.contains f = true → ct n f args = some (.list l) → ConL c n (.ref f) args l
  | 0 => ⟨fun f args t h => (by exact none_el h), fun f args l _ h => (by exact none_el h)⟩
  | n + 1 => by
    have ih := tab_ok hE O IO Gg hvc n
    have H : ∀ A, AOk n A → Hyp c A n G (ct n) := fun A hA => ⟨hA, Gg, ih.1, O, IO, ih.2⟩
    constructor
    · intro f args t h
      replace h : (if f = 311 then vecT args else match tab.find? fun e => e.a == f with | some e => runE (ct n) e args | none => none) = some t := h
      split at h
      · rename_i hf; subst hf
        have := con_vec (n := n + 1) O IO h
        rwa [hvc] at this
      · split at h
        · rename_i e he
          have hm := List.mem_of_find?_eq_some he
          have ha : e.a = f := by simpa using List.find?_some he
          refine Classical.byContradiction fun hCC => ?_
          subst ha
          refine xa_1_5 ((hE e hm).ex) fun fd h1 h2 h3 h4 h5 => ?_
          refine xa_1_2 (Option.bind_eq_some_iff.mp h) fun as hf hr => ?_
          refine hCC ?_
          clear hCC
          by_cases hfr : freshFns.contains e.a = true
          · rw [if_pos hfr] at hr
            obtain ⟨l, rfl⟩ : ∃ l, t = .list l := by
              unfold runFnL at hr
              split at hr
              · (refine some_el hr fun qq => ?_; subst qq; clear hr); exact ⟨_, rfl⟩
              · exact none_el hr
            rcases fill_some hf with ⟨q1, rfl⟩ | ⟨q0, q1, rfl⟩
            · have := con_fnL (ds := []) (dts := []) H h1 h2 h3 (fun V => rfl) rfl q1 hr
              exact fun A V vs hA hvs => (this A V vs hA hvs).frz
            · have := con_fnL (k := args.length) (ds := e.ds.map (·.1)) (dts := e.ds.map (·.2)) H h1 h2 (fun s vs hs hl => h4 s vs hs q0 (by rw [hl]; exact q1)) h5 (by simpa using q1) rfl hr
              exact fun A V vs hA hvs => (this A V vs hA hvs).frz
          · rw [if_neg hfr] at hr
            rcases fill_some hf with ⟨q1, rfl⟩ | ⟨q0, q1, rfl⟩
            · exact con_fn (ds := []) (dts := []) H h1 h2 h3 (fun V => rfl) rfl q1 hr
            · exact con_fn (k := args.length) (ds := e.ds.map (·.1)) (dts := e.ds.map (·.2)) H h1 h2 (fun s vs hs hl => h4 s vs hs q0 (by rw [hl]; exact q1)) h5 (by simpa using q1) rfl hr
        · exact none_el h
    · intro f args l hfr h
      replace h : (if f = 311 then vecT args else match tab.find? fun e => e.a == f with | some e => runE (ct n) e args | none => none) = some (.list l) := h
      split at h
      · rename_i hf; subst hf; exact ff_el hfr
      · split at h
        · rename_i e he
          have hm := List.mem_of_find?_eq_some he
          have ha : e.a = f := by simpa using List.find?_some he
          refine Classical.byContradiction fun hCC => ?_
          subst ha
          refine xa_1_5 ((hE e hm).ex) fun fd h1 h2 h3 h4 h5 => ?_
          refine xa_1_2 (Option.bind_eq_some_iff.mp h) fun as hf hr => ?_
          refine hCC ?_
          clear hCC
          rw [if_pos hfr] at hr
          rcases fill_some hf with ⟨q1, rfl⟩ | ⟨q0, q1, rfl⟩
          · exact con_fnL (ds := []) (dts := []) H h1 h2 h3 (fun V => rfl) rfl q1 hr
          · exact con_fnL (k := args.length) (ds := e.ds.map (·.1)) (dts := e.ds.map (·.2)) H h1 h2 (fun s vs hs hl => h4 s vs hs q0 (by rw [hl]; exact q1)) h5 (by simpa using q1) rfl hr
        · exact none_el h
end
end Mine
end
section
open PySem PySem.W PySem.Calls PyProof.Rows PySem.Spec PySem.SeqAt
set_option genInjectivity false
set_option tactic.hygienic false
namespace Mine
noncomputable def GG : Str → Option Value := fun x => globs.lookup x
noncomputable def EK (K : Frag) (e : FE) : Prop := ∃ fd, fnAt K e.a = some fd ∧ okFn GG K fd e.ps e.tbl e.ms = true ∧ (∀ (s : Shared) (vs : List Value), K.In s.heap → vs.length = e.ps.length → BindsTo s fd ⟨vs, []⟩ (e.ps.zip (vs ++ []))) ∧
    (∀ (s : Shared) (vs : List Value), K.In s.heap → e.ds ≠ [] → vs.length + e.ds.length = e.ps.length → BindsTo s fd ⟨vs, []⟩ (e.ps.zip (vs ++ e.ds.map (·.1))))
noncomputable def IK (K : Frag) : Prop := ∃ fd, fnAt K 301 = some fd ∧ iniOk K fd = true ∧ (∀ (s : Shared) x k i, K.In s.heap → BindsTo s fd ⟨[x, k, i], []⟩ (iniPs.zip [x, k, i, .none])) ∧ ∀ (s : Shared) x k i a, K.In s.heap → BindsTo s fd ⟨[x, k, i, a], []⟩ (iniPs.zip [x, k, i, a])
noncomputable def dsV (v : Value) (t : T) : Bool := match t with
  | .bool b => (match v with | .bool a => a == b | _ => false)
  | .none => (match v with | .none => true | _ => false)
  | _ => false
theorem dsV_is {c : Cfg} {V : View} {v : Value} {t : T} (h : dsV v t = true) : Is c V t v := by
  cases t with
  | bool b => cases v with
    | bool a => exact congrArg _ (eq_of_beq h)
    | _ => exact ff_el h
  | none => cases v with
    | none => rfl
    | _ => exact ff_el h
  | _ => exact ff_el h
noncomputable def dsB (l : List (Value × T)) : Bool := l.all fun x => dsV x.1 x.2
theorem dsB_is {c : Cfg} {V : View} : ∀ {l : List (Value × T)}, dsB l = true → IsL c V (l.map (·.2)) (l.map (·.1))
  | [], _ => rfl
  | (_, _) :: _, h => ⟨_, _, rfl, dsV_is (bt h).1, dsB_is (bt h).2⟩
theorem tab_ds : tab.all (fun e => dsB e.ds) = true := by decide
noncomputable def vecB (K : Frag) : Bool :=
  ([("kind" : Str), "items", "attrs"] : List Str).all (fun n => plainGet K 311 n) && hasDictIn K 311 && ([("kind" : Str), "items", "attrs", "shared", "loose"] : List Str).all (fun n => findIn K (.ref 311) n == some none) &&
  findIn K (.ref 311) "__setattr__" == some (some (.builtin "object.__setattr__")) && plainOver K 311 && ([("kind" : Str), "items", "attrs", "shared", "loose"] : List Str).all (fun n => takerIn K 311 n == some none) && makesIn K 311 &&
  findIn K (.ref 311) "__init__" == some (some (.ref 301)) && isFn K (.ref 301)
noncomputable def glB (K : Frag) : Bool :=
  globs.all (fun p => nsIn K mainGlobals p.1 == some (some p.2)) && ([("len" : Str), "range", "list", "sorted", "str", "int", "abs", "max", "isinstance"] : List Str).all (fun n => nsIn K mainGlobals n == some none) &&
  globs.all (fun p => match p.2 with | .ref a => keepIn K (.ref a) | _ => true)
structure KFacts (K : Frag) : Prop where
  tab : ∀ e ∈ tab, EK K e
  ini : IK K
  vec : vecB K = true
  gl : glB K = true
theorem bi_boot : ∀ b : BI, bootBuiltins b.nm = some b.val := by
  intro b; cases b <;> decide +kernel
theorem isi_boot : bootBuiltins "isinstance" = some (.builtin "isinstance") := by decide +kernel
theorem cfg_ok {c : Cfg} (F : KFacts c.K) (hvc : c.VC = 311) (hin : c.ini = 301) : (∀ e ∈ tab, EOkE c GG e) ∧ VecOk c ∧ IniOk c ∧ Gl c GG := by
  refine Classical.byContradiction fun hCC => ?_
  obtain ⟨Ft, Fi, Fv, Fg⟩ := F
  try clear F
  refine hCC ?_
  clear hCC
  refine ⟨fun e he => ?_, ?_, ?_, ?_⟩
  · obtain ⟨fd, h1, h2, h3, h4⟩ := Ft e he
    exact ⟨fd, h1, h2, h3, h4, fun V => dsB_is (List.all_eq_true.mp tab_ds e he)⟩
  · simp only [vecB, Bool.and_eq_true, List.all_eq_true, beq_iff_eq] at Fv
    refine Classical.byContradiction fun hCC => ?_
    refine ya_9 (Fv) fun a1 a2 a3 a4 a5 a6 a7 a8 a9 => ?_
    try clear Fv
    refine hCC ?_
    clear hCC
    exact ⟨by rw [hvc]; exact a1, by rw [hvc]; exact a2, by rw [hvc]; exact a3, by rw [hvc]; exact a4, by rw [hvc]; exact a5, by rw [hvc]; exact a6, by rw [hvc]; exact a7, by rw [hvc, hin]; exact a8, by rw [hin]; exact a9⟩
  · obtain ⟨fd, h⟩ := Fi
    exact ⟨fd, by rw [hin]; exact h⟩
  · simp only [glB, Bool.and_eq_true, List.all_eq_true, beq_iff_eq] at Fg
    refine ya_3 (Fg) fun g1 g2 g3 => ?_
    try clear Fg
    have hmem : ∀ nm v, GG nm = some v → (nm, v) ∈ globs := fun nm v h => mem_of_look h
    have hv : (("Vector" : Str), Value.ref 311) ∈ globs := by simp [globs]
    refine ⟨fun nm v h => mg_of c.hK c.hg (g1 _ (hmem nm v h)), fun b => ⟨mg_none_of c.hK c.hg (g2 _ (by cases b <;> decide)), bi_boot b, by cases b <;> decide⟩, ⟨mg_none_of c.hK c.hg (g2 _ (by decide)), isi_boot⟩, ?_, ?_, fun nm f h => ?_⟩
    · rw [hvc]; exact mg_of c.hK c.hg (g1 _ hv)
    · rw [hvc]; exact g3 _ hv
    · exact g3 _ (hmem nm _ h)
theorem aok_caller : AOk 30 callerA := ⟨rfl, rfl, by decide, by decide⟩
set_option tactic.hygienic true in
theorem join {prog : Program} {w : World} {K : Frag} {mg mb : Str → Option Value} {s₁ : Shared} {q : Program} {loose : List Str} {mean : ExcName → Option Value} (F : KFacts K) (KX : K.In s₁.heap) (T : Top q loose mean mg mb s₁.heap) {a l : Addr} (ha : mg "law" = some (.ref a)) {ns : List Int} {vs : List Value}
    (hget : s₁.heap.get? l = some (lstO vs 0)) (hI : IntsAre vs ns) (hlaw : ct 20 762 [.list (ns.map .int)] = some (.bool true)) {E Q : Value → Shared → Prop}
    (hQ : ∀ h' tk, (∀ b o, s₁.heap.get? b = some o → h'.get? b = some o) → Q (.bool true) { s₁ with heap := h', toks := tk }) : wpAny (model prog w) callerA (call (.ref a) [.ref l]) Q E s₁ := by
  let c : Cfg := { prog := prog, w := w, K := K, g := s₁.heap, mg := mg, mb := mb, VC := 311, ini := 301, hK := KX, hg := T.g, hb := T.b, lim := T.nolimit, nodig := T.nodigits, bi := T.builtins }
  refine Classical.byContradiction fun hCC => ?_
  refine xa_0_4 (cfg_ok (c := c) F rfl rfl) fun hE hO hIn hG => ?_
  refine hCC ?_
  clear hCC
  have hlg : GG "law" = some (.ref 762) := by decide
  have h762 : mg "law" = some (.ref 762) := hG.gl _ _ hlg
  have : a = 762 := by rw [ha] at h762; cases h762; rfl
  refine Classical.byContradiction fun hCC => ?_
  subst this
  have tk := tab_ok hE hO hIn hG rfl 19
  have H : ∀ A, AOk 19 A → Hyp c A 19 GG (ct 19) := fun A hA => ⟨hA, hG, tk.1, hO, hIn, tk.2⟩
  have hm : f_law.fe ∈ tab := by simp [tab]
  refine xa_1_5 ((hE f_law.fe hm).ex) fun fd h1 h2 h3 h4 h5 => ?_
  refine hCC ?_
  clear hCC
  let V : View := fun b => (s₁.heap.get? b).map .frz
  have hV : ∀ b o, s₁.heap.get? b = some o → V b = some (.frz o) := fun b o e => by show (s₁.heap.get? b).map Cell.frz = _; rw [e]; rfl
  have hon : On V s₁.heap := fun b cl e => by
    refine xa_1_2 (Option.map_eq_some_iff.mp e) fun o ho rq0 => ?_
    subst rq0
    exact ⟨o, ho, rfl⟩
  have hl : IsL c V [.list (ns.map .int)] [.ref l] := .one ⟨l, vs, 0, rfl, hV _ _ hget, ints_is hI⟩
  have hrun : runFn (ct 19) f_law.ms f_law.tbl.length [.list (ns.map .int)] = some (.bool true) := hlaw
  unfold runFn at hrun
  split at hrun
  · rename_i t he
    (refine some_el hrun fun qq => ?_; subst qq; clear hrun)
    refine fn_gives (args := [.list (ns.map .int)]) (ds := []) (dts := []) (ps := f_law.fe.ps) (k := 1) H h1 h2 h3 (fun V => rfl) rfl rfl he (aok_caller.le (by decide)) hl hon hV fun F f V1 V' h' tk env kn l1 hF l2 hV' hf => ?_
    refine xa_1_2 (hf) fun w' rq0 hw => ?_
    try clear hf
    subst rq0
    obtain rfl : w' = .bool true := hw
    exact hQ h' tk fun b o e => hV'.on.frz (l2 b _ (l1 _ _ (hV _ _ e)) (by intro h; exact none_el h))
  · cases hrun
  · exact none_el hrun
  · exact none_el hrun
end Mine
end
section
open PySem PySem.W PySem.Spec PySem.SeqAt
set_option tactic.hygienic false
namespace Mine
section
variable {c : Addr → List T → Option T} {σ σ' : List LV} {ms : List MS} {o : Out}
theorem st_asg {i e t} (h : ev c false σ e = some t) (k : exs c ms (σ.set i (.frz t)) = some o) : exs c (.asg i e :: ms) σ = some o := by
  show (match (do pure (.nxt (σ.set i (.frz (← ev c false σ e)))) : Option Out) with | some (.nxt σ') => exs c ms σ' | r => r) = _
  rw [h]; exact k
theorem st_asgF {i e l} (h : ev c false σ e = some (.list l)) (k : exs c ms (σ.set i (.own l)) = some o) : exs c (.asgF i e :: ms) σ = some o := by
  show (match (match ev c false σ e with | some (.list l) => some (Out.nxt (σ.set i (.own l))) | _ => none) with | some (.nxt σ') => exs c ms σ' | r => r) = _
  rw [h]; exact k
theorem st_ite {t a b v r} (h : ev c false σ t = some (.bool v)) (h1 : exs c (if v then a else b) σ = some r) (k : (match (some r : Option Out) with | some (.nxt σ') => exs c ms σ' | r => r) = some o) : exs c (.ite t a b :: ms) σ = some o := by
  show (match (do match ← asB (← ev c false σ t) with | true => exs c a σ | false => exs c b σ : Option Out) with | some (.nxt σ') => exs c ms σ' | r => r) = _
  rw [h]
  cases v with
  | true => show (match exs c a σ with | some (.nxt σ') => exs c ms σ' | r => r) = _; rw [show exs c a σ = some r from h1]; exact k
  | false => show (match exs c b σ with | some (.nxt σ') => exs c ms σ' | r => r) = _; rw [show exs c b σ = some r from h1]; exact k
theorem st_ret {e t} (h : ev c false σ e = some t) : exs c (.ret e :: ms) σ = some (.ret t) := by
  show (match (do pure (.ret (← ev c false σ e)) : Option Out) with | some (.nxt σ') => exs c ms σ' | r => r) = _
  rw [h]; rfl
theorem st_for {i it b u items r} (h : ev c false σ it = some u) (h1 : iterT u = some items) (h2 : runFor (fun σ t => exs c b (σ.set i (.frz t))) items σ = some r) (k : (match (some r : Option Out) with | some (.nxt σ') => exs c ms σ' | r => r) = some o) :
    exs c (.forI i it b :: ms) σ = some o := by
  show (match (do runFor (fun σ t => exs c b (σ.set i (.frz t))) (← iterT (← ev c false σ it)) σ : Option Out) with | some (.nxt σ') => exs c ms σ' | r => r) = _
  rw [h]
  show (match (do runFor (fun σ t => exs c b (σ.set i (.frz t))) (← iterT u) σ : Option Out) with | some (.nxt σ') => exs c ms σ' | r => r) = _
  rw [h1]
  show (match runFor (fun σ t => exs c b (σ.set i (.frz t))) items σ with | some (.nxt σ') => exs c ms σ' | r => r) = _
  rw [h2]; exact k
theorem ev_call {r nm f l ts t} (h : evL c false σ l = some ts) (h1 : c f ts = some t) : ev c r σ (.call nm f l) = some t := by
  show (do c f (← evL c false σ l)) = _
  rw [h]; exact h1
theorem evL_cons {r e es t ts} (h : ev c r σ e = some t) (h1 : evL c r σ es = some ts) : evL c r σ (e :: es) = some (t :: ts) := by
  show (do let t ← ev c r σ e; let ts ← evL c r σ es; pure (t :: ts)) = _
  rw [h]
  show (do let ts ← evL c r σ es; pure (t :: ts)) = _
  rw [h1]; rfl
theorem evL_nil {r} : evL c r σ [] = some [] := rfl
theorem ev_bcall {r b l ts t} (h : evL c true σ l = some ts) (h1 : tcall b ts = some t) : ev c r σ (.bcall b l) = some t := by
  show (do tcall b (← evL c true σ l)) = _
  rw [h]; exact h1
theorem ev_comp {r elt it cond u items rs} (h : ev c true σ it = some u) (h1 : iterT u = some items) (h2 : compRun (fun t => evC c (σ ++ [LV.frz t]) cond) (fun t => ev c false (σ ++ [LV.frz t]) elt) items = some rs) : ev c r σ (.comp elt it cond) = some (.list rs) := by
  show (do let items ← iterT (← ev c true σ it); pure (T.list (← compRun (fun t => evC c (σ ++ [LV.frz t]) cond) (fun t => ev c false (σ ++ [LV.frz t]) elt) items))) = _
  rw [h]
  show (do let items ← iterT u; pure (T.list (← compRun (fun t => evC c (σ ++ [LV.frz t]) cond) (fun t => ev c false (σ ++ [LV.frz t]) elt) items))) = _
  rw [h1]
  show (do pure (T.list (← compRun (fun t => evC c (σ ++ [LV.frz t]) cond) (fun t => ev c false (σ ++ [LV.frz t]) elt) items))) = _
  rw [h2]; rfl
theorem comp_map {test : T → Option Bool} {f : T → Option T} {g : T → T} : ∀ {items : List T}, (∀ t ∈ items, test t = some true ∧ f t = some (g t)) → compRun test f items = some (items.map g)
  | [], _ => rfl
  | t :: ts, h => by
    obtain ⟨h1, h2⟩ := h t (.head _)
    unfold compRun
    rw [h1]
    show (do let r ← f t; let rs ← compRun test f ts; pure (r :: rs)) = _
    rw [h2]
    show (do let rs ← compRun test f ts; pure (g t :: rs)) = _
    rw [comp_map fun t ht => h t (.tail _ ht)]; rfl
theorem comp_filter {test : T → Option Bool} {f : T → Option T} {p : T → Bool} {g : T → T} : ∀ {items : List T}, (∀ t ∈ items, test t = some (p t) ∧ (p t = true → f t = some (g t))) → compRun test f items = some ((items.filter p).map g)
  | [], _ => rfl
  | t :: ts, h => by
    obtain ⟨h1, h2⟩ := h t (.head _)
    have ih := comp_filter fun t ht => h t (.tail _ ht)
    unfold compRun
    rw [h1]
    cases hp : p t with
    | true =>
      rw [List.filter_cons_of_pos hp]
      show (do let r ← f t; let rs ← compRun test f ts; pure (r :: rs)) = _
      rw [h2 hp]
      show (do let rs ← compRun test f ts; pure (g t :: rs)) = _
      rw [ih]; rfl
    | false =>
      rw [List.filter_cons_of_neg (by rw [hp]; exact Bool.false_ne_true)]
      exact ih
end
theorem ct_succ (n : Nat) (f : Addr) (args : List T) : ct (n + 1) f args = if f = 311 then vecT args else match tab.find? fun e => e.a == f with | some e => runE (ct n) e args | none => none := rfl
theorem ct_of (e : FE) (n : Nat) {args : List T} {t : T} (h1 : (tab.find? fun x => x.a == e.a) = some e) (h2 : (e.a == 311) = false) (h3 : freshFns.contains e.a = false) (h4 : args.length = e.ps.length)
    (h5 : exs (ct n) e.ms (args.map .frz ++ List.replicate (e.tbl.length - args.length) .undef) = some (.ret t)) : ct (n + 1) e.a args = some t := by
  rw [ct_succ, if_neg (ne_of_beq_false h2), h1]
  show (do let as ← fill e args; if freshFns.contains e.a then runFnL (ct n) e.ms e.tbl.length as else runFn (ct n) e.ms e.tbl.length as : Option T) = _
  unfold fill
  rw [if_pos h4]
  show (if freshFns.contains e.a then runFnL (ct n) e.ms e.tbl.length args else runFn (ct n) e.ms e.tbl.length args) = _
  rw [if_neg (by rw [h3]; exact Bool.false_ne_true)]
  unfold runFn
  rw [h5]
theorem ct_ofD (e : FE) (n : Nat) {args as : List T} {t : T} (h1 : (tab.find? fun x => x.a == e.a) = some e) (h2 : (e.a == 311) = false) (h3 : freshFns.contains e.a = false) (h4 : fill e args = some as)
    (h5 : exs (ct n) e.ms (as.map .frz ++ List.replicate (e.tbl.length - as.length) .undef) = some (.ret t)) : ct (n + 1) e.a args = some t := by
  rw [ct_succ, if_neg (ne_of_beq_false h2), h1]
  show (do let as ← fill e args; if freshFns.contains e.a then runFnL (ct n) e.ms e.tbl.length as else runFn (ct n) e.ms e.tbl.length as : Option T) = _
  rw [h4]
  show (if freshFns.contains e.a then runFnL (ct n) e.ms e.tbl.length as else runFn (ct n) e.ms e.tbl.length as) = _
  rw [if_neg (by rw [h3]; exact Bool.false_ne_true)]
  unfold runFn
  rw [h5]
theorem ct_ofL (e : FE) (n : Nat) {args : List T} {l : List T} (h1 : (tab.find? fun x => x.a == e.a) = some e) (h2 : (e.a == 311) = false) (h3 : freshFns.contains e.a = true) (h4 : args.length = e.ps.length)
    (h5 : exs (ct n) e.ms (args.map .frz ++ List.replicate (e.tbl.length - args.length) .undef) = some (.retO l)) : ct (n + 1) e.a args = some (.list l) := by
  rw [ct_succ, if_neg (ne_of_beq_false h2), h1]
  show (do let as ← fill e args; if freshFns.contains e.a then runFnL (ct n) e.ms e.tbl.length as else runFn (ct n) e.ms e.tbl.length as : Option T) = _
  unfold fill
  rw [if_pos h4]
  show (if freshFns.contains e.a then runFnL (ct n) e.ms e.tbl.length args else runFn (ct n) e.ms e.tbl.length args) = _
  rw [if_pos h3]
  unfold runFnL
  rw [h5]
theorem ct_vec2 (n : Nat) (k i : T) : ct (n + 1) 311 [k, i] = some (.vec k i .none) := rfl
theorem st_app {c : Addr → List T → Option T} {σ : List LV} {ms : List MS} {o : Out} {i e t l} (h0 : σ[i]? = some (.own l)) (h : ev c false σ e = some t) (hl : l.length < lim) (k : exs c ms (σ.set i (.own (l ++ [t]))) = some o) : exs c (.app i e :: ms) σ = some o := by
  show (match (do let l ← ownOf σ[i]?; let t ← ev c false σ e; if l.length < lim then pure (.nxt (σ.set i (.own (l ++ [t])))) else none : Option Out) with | some (.nxt σ') => exs c ms σ' | r => r) = _
  rw [h0, h]
  show (match (if l.length < lim then pure (.nxt (σ.set i (.own (l ++ [t])))) else none : Option Out) with | some (.nxt σ') => exs c ms σ' | r => r) = _
  rw [if_pos hl]; exact k
theorem st_frz {c : Addr → List T → Option T} {σ : List LV} {ms : List MS} {o : Out} {i lv t} (h0 : σ[i]? = some lv) (h : frzV lv = some t) (k : exs c ms (σ.set i (.frz t)) = some o) : exs c (.frz i :: ms) σ = some o := by
  show (match (do let lv ← σ[i]?; pure (.nxt (σ.set i (.frz (← frzV lv)))) : Option Out) with | some (.nxt σ') => exs c ms σ' | r => r) = _
  rw [h0]
  show (match (do pure (.nxt (σ.set i (.frz (← frzV lv)))) : Option Out) with | some (.nxt σ') => exs c ms σ' | r => r) = _
  rw [h]; exact k
theorem st_exp {c : Addr → List T → Option T} {σ : List LV} {ms : List MS} {o : Out} {e t} (h : ev c false σ e = some t) (k : exs c ms σ = some o) : exs c (.exp e :: ms) σ = some o := by
  show (match (do let _ ← ev c false σ e; pure (.nxt σ) : Option Out) with | some (.nxt σ') => exs c ms σ' | r => r) = _
  rw [h]; exact k
theorem ev_meth {c : Addr → List T → Option T} {σ : List LV} {r m o l v ts t} (ho : ev c true σ o = some v) (hl : evL c false σ l = some ts) (ht : tmeth m v ts = some t) : ev c r σ (.meth m o l) = some t := by
  show (do tmeth m (← ev c true σ o) (← evL c false σ l)) = _
  rw [ho, hl]; exact ht
theorem ev_fstr {c : Addr → List T → Option T} {σ : List LV} {r l ts t} (hl : evL c false σ l = some ts) (ht : fjoin Str.empty ts = some t) : ev c r σ (.fstr l) = some t := by
  show (do fjoin Str.empty (← evL c false σ l)) = _
  rw [hl]; exact ht
theorem ev_idx {c : Addr → List T → Option T} {σ : List LV} {r e i o u t} (h1 : ev c true σ e = some o) (h2 : ev c false σ i = some u) (h3 : tidx o u = some t) : ev c r σ (.idx e i) = some t := by
  show (do tidx (← ev c true σ e) (← ev c false σ i)) = _
  rw [h1, h2]; exact h3
theorem ev_attr {c : Addr → List T → Option T} {σ : List LV} {r e nm o t} (h1 : ev c false σ e = some o) (h3 : tattr o nm = some t) : ev c r σ (.attr e nm) = some t := by
  show (do tattr (← ev c false σ e) nm) = _
  rw [h1]; exact h3
theorem ev_cmp {c : Addr → List T → Option T} {σ : List LV} {r op a b x y v} (h1 : ev c true σ a = some x) (h2 : ev c true σ b = some y) (h3 : tcmp op x y = some v) : ev c r σ (.cmp op a b) = some (.bool v) := by
  show (do pure (T.bool (← tcmp op (← ev c true σ a) (← ev c true σ b)))) = _
  rw [h1, h2]
  show (do pure (T.bool (← tcmp op x y))) = _
  rw [h3]; rfl
theorem ev_bin {c : Addr → List T → Option T} {σ : List LV} {r op a b x y t} (h1 : ev c true σ a = some x) (h2 : ev c true σ b = some y) (h3 : tbin op x y = some t) : ev c r σ (.bin op a b) = some t := by
  show (do tbin op (← ev c true σ a) (← ev c true σ b)) = _
  rw [h1, h2]; exact h3
theorem ev_ite {c : Addr → List T → Option T} {σ : List LV} {r t a b v u} (h1 : ev c false σ t = some (.bool v)) (h2 : ev c false σ (if v then a else b) = some u) : ev c r σ (.ite t a b) = some u := by
  show (do if ← asB (← ev c false σ t) then ev c false σ a else ev c false σ b : Option T) = _
  rw [h1]
  cases v <;> exact h2
theorem ev_tup {c : Addr → List T → Option T} {σ : List LV} {r l ts} (h1 : evL c false σ l = some ts) (h2 : ts.length ≤ lim) : ev c r σ (.tup l) = some (.tup ts) := by
  show (do let ts ← evL c false σ l; if ts.length ≤ lim then pure (T.tup ts) else none) = _
  rw [h1]
  show (if ts.length ≤ lim then some (T.tup ts) else none) = _
  rw [if_pos h2]
theorem ev_list {c : Addr → List T → Option T} {σ : List LV} {r l ts} (h1 : evL c false σ l = some ts) (h2 : ts.length ≤ lim) : ev c r σ (.list l) = some (.list ts) := by
  show (do let ts ← evL c false σ l; if ts.length ≤ lim then pure (T.list ts) else none) = _
  rw [h1]
  show (if ts.length ≤ lim then some (T.list ts) else none) = _
  rw [if_pos h2]
theorem st_nil {c : Addr → List T → Option T} {σ : List LV} : exs c [] σ = some (.nxt σ) := rfl
end Mine
end
section
open PySem PySem.W PySem.Spec PySem.SeqAt
set_option tactic.hygienic false
namespace Mine
noncomputable def kv : Bool → Nat → T
  | true, 0 => .str "kiwi"
  | true, 1 => .str "fig"
  | true, 2 => .str "pear"
  | true, 3 => .str "date"
  | false, 0 => .int 30
  | false, 1 => .int (-2)
  | false, 2 => .int 7
  | false, 3 => .int 100
  | _, _ => .none
noncomputable def kd (sp : Bool) : T := .str (if sp then "character" else "integer")
noncomputable abbrev vecN (k i : T) : T := .vec k i .none
noncomputable def col (sp : Bool) (l : List Nat) : T := vecN (kd sp) (.list (l.map (kv sp)))
noncomputable abbrev icol (l : List T) : T := vecN (.str "integer") (.list l)
noncomputable abbrev chr (l : List T) : T := vecN (.str "character") (.list l)
noncomputable abbrev rowsT (n : Nat) : T := icol ((rngL 1 (n + 1) 1).map .int)
noncomputable def fr (cols names : List T) (rows : T) : T := .vec (.str "list") (.list cols) (.dict ["names", "class", "row.names"] [chr names, chr [.str "data.frame"], rows])
noncomputable def ks : Bool → Nat → Str
  | true, 0 => "=kiwi"
  | true, 1 => "=fig"
  | true, 2 => "=pear"
  | true, 3 => "=date"
  | false, 0 => "=30"
  | false, 1 => "=-2"
  | false, 2 => "=7"
  | false, 3 => "=100"
  | _, _ => "NA"
noncomputable def rk : Bool → Nat → Str
  | true, 0 => "5:=kiwi"
  | true, 1 => "4:=fig"
  | true, 2 => "5:=pear"
  | true, 3 => "5:=date"
  | false, 0 => "3:=30"
  | false, 1 => "3:=-2"
  | false, 2 => "2:=7"
  | false, 3 => "4:=100"
  | _, _ => "2:NA"
noncomputable def rank : Bool → Nat → Nat
  | true, 0 => 2
  | true, 1 => 1
  | true, 2 => 3
  | true, 3 => 0
  | false, 0 => 2
  | false, 1 => 0
  | false, 2 => 1
  | false, 3 => 3
  | _, _ => 4
noncomputable def ki : Nat → Int
  | 0 => 30
  | 1 => -2
  | 2 => 7
  | _ => 100
theorem comp_mapN {k g : Nat → T} {f : T → Option T} : ∀ {l : List Nat}, (∀ x ∈ l, f (k x) = some (g x)) → compRun (fun _ => some true) f (l.map k) = some (l.map g)
  | [], _ => rfl
  | x :: l, h => by
    rw [List.map_cons, List.map_cons]
    unfold compRun
    show (do let r ← f (k x); let rs ← compRun (fun _ => some true) f (l.map k); pure (r :: rs)) = _
    rw [h x (.head _)]
    show (do let rs ← compRun (fun _ => some true) f (l.map k); pure (g x :: rs)) = _
    rw [comp_mapN fun y hy => h y (.tail _ hy)]; rfl
noncomputable def small (l : List Nat) : Prop := ∀ f ∈ l, f < 5
theorem r_is_factor (n : Nat) (sp : Bool) (l : List Nat) : ct (n + 3) 603 [col sp l] = some (.bool false) := by cases sp <;> kernel_rfl
theorem r_label_text (n : Nat) (t : T) : ct (n + 1) 371 [.str "character", t] = some t := by
  cases t <;> kernel_rfl
theorem r_label_texts (n : Nat) (l : List T) (hl : l.length ≤ lim) : ct (n + 3) 383 [chr l] = some (.list l) := by
  refine ct_of f_label_texts.fe (n + 2) (by kernel_rfl) rfl rfl rfl (st_asg (t := .none) (by kernel_rfl) ?_)
  refine st_ite (v := false) (r := .nxt _) (by kernel_rfl) rfl ?_
  have := comp_map (test := fun t => some true) (f := fun t => ev (ct (n + 2)) false ([LV.frz (chr l), .frz .none, .undef] ++ [LV.frz t]) (.call "label_text" 371 [(.attr (.var 0) "kind"), (.var 3)])) (g := fun t => t) (items := l)
    fun t ht => ⟨rfl, ev_call (ts := [.str "character", t]) rfl (r_label_text (n + 1) t)⟩
  rw [List.map_id'] at this
  exact st_ret (ev_comp (u := .list l) rfl (if_pos hl) this)
noncomputable def kdb (f : Nat) : T := if f < 4 then .tup [.int (ki f), .int 1] else .none
theorem r_item_as (n : Nat) (f : Nat) (hf : f < 5) : ct (n + 3) 484 [.str "integer", kv false f, .str "double", .list []] = some (kdb f) := by
  match f, hf with
  | 0, _ => kernel_rfl
  | 1, _ => kernel_rfl
  | 2, _ => kernel_rfl
  | 3, _ => kernel_rfl
  | 4, _ => kernel_rfl
theorem r_as_kind (n : Nat) (l : List Nat) (hl : l.length ≤ lim) (hs : small l) : ct (n + 4) 522 [col false l, .str "double", .list []] = some (vecN (.str "double") (.list (l.map kdb))) := by
  refine ct_of f_as_kind.fe (n + 3) (by kernel_rfl) rfl rfl rfl ?_
  refine st_ite (v := false) (r := .nxt _) (by kernel_rfl) rfl ?_
  refine st_asg (t := .list (l.map (kv false))) (by kernel_rfl) ?_
  have hc : compRun (fun t => some true) (fun t => ev (ct (n + 3)) false ([LV.frz (col false l), .frz (.str "double"), .frz (.list []), .frz (.list (l.map (kv false)))] ++ [LV.frz t]) (.call "item_as" 484 [(.attr (.var 0) "kind"), (.var 4), (.var 1), (.var 2)])) (l.map (kv false)) = some (l.map kdb) := by
    exact comp_mapN fun f hf => ev_call (ts := [.str "integer", kv false f, .str "double", .list []]) rfl (r_item_as n f (hs f hf))
  refine st_ite (v := true) (r := .nxt [.frz (col false l), .frz (.str "double"), .frz (.list []), .frz (.list (l.map kdb))]) (by kernel_rfl) ?_ ?_
  · refine st_asgF (ev_comp (u := .list (l.map (kv false))) rfl (if_pos (by rw [List.length_map]; exact hl)) hc) ?_
    exact st_frz rfl rfl rfl
  · refine st_ret (ev_call (ts := [vecN (.str "double") (.list (l.map kdb)), .none]) ?_ (by kernel_rfl))
    refine evL_cons (ev_call (ts := [.str "double", .list (l.map kdb)]) ?_ rfl) (evL_cons (ev_call (ts := [col false l]) rfl (by kernel_rfl)) evL_nil)
    exact evL_cons rfl (evL_cons (ev_bcall (ts := [.list (l.map kdb)]) rfl (if_pos (by rw [List.length_map]; exact hl))) evL_nil)
theorem r_column_keys (n : Nat) (sp : Bool) (l : List Nat) (hl : l.length ≤ lim) (hs : small l) : ct (n + 5) 665 [col sp l] = some (.list (l.map fun f => .str (ks sp f))) := by
  cases sp with
  | true =>
    refine ct_of f_column_keys.fe (n + 4) (by kernel_rfl) rfl rfl rfl ?_
    refine st_ite (v := true) (r := .ret (.list (l.map fun f => .str (ks true f)))) (by kernel_rfl) (st_ret ?_) rfl
    refine ev_comp (u := .list (l.map (kv true))) (ev_call (ts := [col true l]) rfl (r_label_texts (n + 1) (l.map (kv true)) (by rw [List.length_map]; exact hl))) (if_pos (by rw [List.length_map]; exact hl)) ?_
    refine comp_mapN fun f hf => ?_
    match f, hs f hf with
    | 0, _ => kernel_rfl
    | 1, _ => kernel_rfl
    | 2, _ => kernel_rfl
    | 3, _ => kernel_rfl
    | 4, _ => kernel_rfl
  | false =>
    refine ct_of f_column_keys.fe (n + 4) (by kernel_rfl) rfl rfl rfl ?_
    refine st_ite (v := false) (r := .nxt _) (by kernel_rfl) rfl ?_
    refine st_ite (v := true) (r := .ret (.list (l.map fun f => .str (ks false f)))) (by kernel_rfl) ?_ rfl
    refine st_asg (t := .list (l.map kdb)) ?_ (st_ret ?_)
    · show (do tattr (← ev (ct (n + 4)) false [.frz (col false l), .undef] (.call "as_kind" 522 [(.var 0), (.str "double"), (.list [])])) "items") = _
      rw [ev_call (ts := [col false l, .str "double", .list []]) rfl (r_as_kind n l hl hs)]
      rfl
    · refine ev_comp (u := .list (l.map kdb)) rfl (if_pos (by rw [List.length_map]; exact hl)) (comp_mapN fun f hf => ?_)
      match f, hs f hf with
      | 0, _ => kernel_rfl
      | 1, _ => kernel_rfl
      | 2, _ => kernel_rfl
      | 3, _ => kernel_rfl
      | 4, _ => kernel_rfl
theorem for_app {c : Addr → List T → Option T} {b : List MS} {i : Nat} {R : List T → List LV → Prop} {g : T → T} : ∀ {items : List T} {acc : List T} {σ : List LV}, R acc σ →
    (∀ acc σ t, t ∈ items → acc.length < 1000 → R acc σ → ∃ σ', exs c b (σ.set i (.frz t)) = some (.nxt σ') ∧ R (acc ++ [g t]) σ') → acc.length + items.length ≤ 1000 → ∃ σ', runFor (fun σ t => exs c b (σ.set i (.frz t))) items σ = some (.nxt σ') ∧ R (acc ++ items.map g) σ'
  | [], acc, σ, h, _, _ => ⟨σ, rfl, by rw [List.map_nil, List.append_nil]; exact h⟩
  | t :: ts, acc, σ, h, k, hl => by
    rw [List.length_cons] at hl
    refine xa_1_2 (k acc σ t (.head _) (by omega) h) fun σ1 h1 h2 => ?_
    obtain ⟨σ', h3, h4⟩ := for_app (items := ts) h2 (fun acc σ t ht => k acc σ t (.tail _ ht)) (by rw [List.length_append, List.length_singleton]; omega)
    refine ⟨σ', ?_, by rw [List.map_cons, List.append_cons]; exact h4⟩
    unfold runFor
    rw [h1]; exact h3
theorem lt_lim {n : Nat} (h : n < 1000) : n < lim := Nat.lt_trans h (by decide)
theorem le_lim {n : Nat} (h : n ≤ 1000) : n ≤ lim := Nat.le_trans h (by decide)
theorem range_T (n : Nat) (h : n ≤ 1000) : tcall .range [.int n] = some (.rng 0 n 1) ∧ iterT (.rng 0 n 1) = some ((List.range n).map fun i => .int (i : Nat)) := by
  have hm : midI n = true := decide_eq_true (by omega)
  have h0 : midI 0 = true := decide_eq_true (by decide)
  have hn : rngN 0 n 1 = n := by
    unfold rngN
    by_cases h0 : (0 : Int) < n
    · rw [if_pos h0]; omega
    · rw [if_neg h0]; omega
  refine ⟨by show (if midI n then some (T.rng 0 n 1) else none) = _; rw [if_pos hm], ?_⟩
  show (if midI 0 && midI n && (decide ((0 : Int) < 1) && decide ((1 : Int) < 1000)) && decide (rngN 0 n 1 ≤ lim) then some ((rngL 0 n 1).map T.int) else none) = _
  rw [if_pos (by rw [h0, hm, hn]; simp; exact le_lim h)]
  unfold rngL
  rw [hn, List.map_map]
  congr 1
  refine List.map_congr_left fun i _ => ?_
  show T.int (0 + (i : Nat) * 1) = _
  congr 1; omega
theorem idx_list (l : List T) (i : Nat) (hi : i < l.length) (hl : l.length ≤ 1000) : tidx (.list l) (.int i) = some l[i] := by
  show seqT l i = _
  unfold seqT
  rw [if_pos (show smallI i = true from decide_eq_true (by omega)), if_pos (by omega)]
  show l[i]? = _
  simp [hi]
theorem idx_map (l : List Nat) (k : Nat → T) (i : Nat) (hi : i < l.length) (hl : l.length ≤ 1000) : tidx (.list (l.map k)) (.int i) = some (k l[i]) := by
  rw [idx_list _ i (by rw [List.length_map]; exact hi) (by rw [List.length_map]; exact hl)]
  simp
theorem range_getD (l : List Nat) (d : Nat) {α : Type} (k : Nat → α) : (List.range l.length).map (fun i => k (l.getD i d)) = l.map k := by
  refine List.ext_getElem (by simp) fun i h1 h2 => ?_
  have hi : i < l.length := by simpa using h1
  simp [List.getD, hi]
theorem ks_len (sp : Bool) (f : Nat) (hf : f < 5) : tcall .len [.str (ks sp f)] = some (.int (ks sp f).length) := by
  match sp, f, hf with
  | true, 0, _ => kernel_rfl
  | true, 1, _ => kernel_rfl
  | true, 2, _ => kernel_rfl
  | true, 3, _ => kernel_rfl
  | true, 4, _ => kernel_rfl
  | false, 0, _ => kernel_rfl
  | false, 1, _ => kernel_rfl
  | false, 2, _ => kernel_rfl
  | false, 3, _ => kernel_rfl
  | false, 4, _ => kernel_rfl
theorem rk_f (sp : Bool) (f : Nat) (hf : f < 5) : fjoin Str.empty [.int (ks sp f).length, .str ":", .str (ks sp f)] = some (.str (rk sp f)) := by
  match sp, f, hf with
  | true, 0, _ => kernel_rfl
  | true, 1, _ => kernel_rfl
  | true, 2, _ => kernel_rfl
  | true, 3, _ => kernel_rfl
  | true, 4, _ => kernel_rfl
  | false, 0, _ => kernel_rfl
  | false, 1, _ => kernel_rfl
  | false, 2, _ => kernel_rfl
  | false, 3, _ => kernel_rfl
  | false, 4, _ => kernel_rfl
theorem rk_join (sp : Bool) (f : Nat) (hf : f < 5) : tmeth .join (.str "") [.list [.str (rk sp f)]] = some (.str (rk sp f)) := by
  match sp, f, hf with
  | true, 0, _ => kernel_rfl
  | true, 1, _ => kernel_rfl
  | true, 2, _ => kernel_rfl
  | true, 3, _ => kernel_rfl
  | true, 4, _ => kernel_rfl
  | false, 0, _ => kernel_rfl
  | false, 1, _ => kernel_rfl
  | false, 2, _ => kernel_rfl
  | false, 3, _ => kernel_rfl
  | false, 4, _ => kernel_rfl
theorem r_row_keys (n : Nat) (sp : Bool) (l : List Nat) (hl : l.length ≤ 100) (hs : small l) : ct (n + 6) 670 [.list [col sp l], .int l.length] = some (.list (l.map fun f => .str (rk sp f))) := by
  have hll : l.length ≤ lim := Nat.le_trans hl (by decide)
  refine ct_of f_row_keys.fe (n + 5) (by kernel_rfl) rfl rfl rfl ?_
  refine st_asgF (l := [.list (l.map fun f => .str (ks sp f))]) (ev_comp (u := .list [col sp l]) rfl rfl ?_) (st_frz rfl rfl (st_asgF (l := []) rfl ?_))
  · refine comp_map (g := fun _ => .list (l.map fun f => .str (ks sp f))) (items := [col sp l]) fun t ht => ⟨rfl, ?_⟩
    obtain rfl := List.mem_singleton.mp ht
    exact ev_call (ts := [col sp l]) rfl (r_column_keys n sp l hll hs)
  · obtain ⟨q1, q2⟩ := range_T l.length (by omega)
    have key := for_app (c := ct (n + 5)) (b := [.app 3 (.meth .join (.str "") [(.comp (.fstr [(.bcall .len [(.idx (.var 5) (.var 4))]), (.str ":"), (.idx (.var 5) (.var 4))]) (.var 2) none)])]) (i := 4)
      (R := fun acc σ => ∃ u, σ = [.frz (.list [col sp l]), .frz (.int l.length), .frz (.list [.list (l.map fun f => .str (ks sp f))]), .own acc, u]) (g := fun t => match t with | .int i => .str (rk sp (l.getD i.toNat 4)) | t => t)
      (items := (List.range l.length).map fun i => .int (i : Nat)) (acc := []) (σ := [.frz (.list [col sp l]), .frz (.int l.length), .frz (.list [.list (l.map fun f => .str (ks sp f))]), .own [], .undef]) ⟨_, rfl⟩ (fun acc σ t ht hla ⟨u, hu⟩ => by
      subst hu
      refine xa_1_2 (List.mem_map.mp ht) fun i hi rq0 => ?_
      subst rq0
      have hi := List.mem_range.mp hi
      have hx := idx_map l (fun f => T.str (ks sp f)) i hi (by omega)
      have hg : l.getD i 4 = l[i] := by simp [List.getD, hi]
      refine ⟨_, st_app (t := .str (rk sp l[i])) rfl ?_ (lt_lim hla) st_nil, ⟨.frz (.int i), ?_⟩⟩
      · have hf := hs l[i] (by simp)
        refine ev_meth (v := .str "") (ts := [.list [.str (rk sp l[i])]]) rfl (evL_cons (ev_comp (u := .list [.list (l.map fun f => .str (ks sp f))]) rfl rfl ?_) evL_nil) (rk_join sp _ hf)
        refine comp_map (g := fun _ => .str (rk sp l[i])) (items := [.list (l.map fun f => .str (ks sp f))]) fun t ht => ⟨rfl, ?_⟩
        obtain rfl := List.mem_singleton.mp ht
        have hid : ∀ r, ev (ct (n + 5)) r (([LV.frz (.list [col sp l]), .frz (.int l.length), .frz (.list [.list (l.map fun f => .str (ks sp f))]), .own acc, u].set 4 (.frz (.int i))) ++ [LV.frz (.list (l.map fun f => .str (ks sp f)))]) (.idx (.var 5) (.var 4)) = some (.str (ks sp l[i])) :=
          fun r => ev_idx rfl rfl hx
        exact ev_fstr (evL_cons (ev_bcall (evL_cons (hid true) evL_nil) (ks_len sp _ hf)) (evL_cons rfl (evL_cons (hid false) evL_nil))) (rk_f sp _ hf)
      · show _ = [LV.frz (.list [col sp l]), .frz (.int l.length), .frz (.list [.list (l.map fun f => .str (ks sp f))]), .own (acc ++ [.str (rk sp (l.getD i 4))]), .frz (.int i)]
        rw [hg]; rfl) (by simp; omega)
    refine Classical.byContradiction fun hCC => ?_
    obtain ⟨σ', h1, u, rq0⟩ := key
    try clear key
    subst rq0
    refine hCC ?_
    clear hCC
    have e : ([] ++ ((List.range l.length).map fun i => T.int (i : Nat)).map (fun t => match t with | .int i => T.str (rk sp (l.getD i.toNat 4)) | t => t)) = l.map fun f => T.str (rk sp f) := by
      rw [List.nil_append, List.map_map]
      exact range_getD l 4 (fun f => T.str (rk sp f))
    rw [e] at h1
    exact st_for (u := .rng 0 l.length 1) (ev_bcall (ts := [.int l.length]) rfl q1) q2 h1 (st_frz rfl rfl (st_ret rfl))
end Mine
end
section
open PySem PySem.W PySem.Spec PySem.SeqAt
set_option tactic.hygienic false
namespace Mine
theorem for_appL {step : List LV → T → Option Out} {R : List T → List LV → Prop} {g : T → List T} : ∀ {items : List T} {acc : List T} {σ : List LV}, R acc σ →
    (∀ acc σ t, t ∈ items → acc.length + (g t).length ≤ 999 → R acc σ → ∃ σ', step σ t = some (.nxt σ') ∧ R (acc ++ g t) σ') → acc.length + (items.flatMap g).length ≤ 999 → ∃ σ', runFor step items σ = some (.nxt σ') ∧ R (acc ++ items.flatMap g) σ'
  | [], acc, σ, h, _, _ => ⟨σ, rfl, by rw [List.flatMap_nil, List.append_nil]; exact h⟩
  | t :: ts, acc, σ, h, k, hl => by
    rw [List.flatMap_cons, List.length_append] at hl
    refine xa_1_2 (k acc σ t (.head _) (by omega) h) fun σ1 h1 h2 => ?_
    obtain ⟨σ', h3, h4⟩ := for_appL (items := ts) h2 (fun acc σ t ht => k acc σ t (.tail _ ht)) (by rw [List.length_append]; omega)
    refine ⟨σ', ?_, by rw [List.flatMap_cons, ← List.append_assoc]; exact h4⟩
    unfold runFor
    rw [h1]; exact h3
theorem for_inv {step : List LV → T → Option Out} {R : Nat → List LV → Prop} : ∀ {items : List T} {k : Nat} {σ : List LV}, R k σ →
    (∀ j σ t, items[j]? = some t → R (k + j) σ → ∃ σ', step σ t = some (.nxt σ') ∧ R (k + j + 1) σ') → ∃ σ', runFor step items σ = some (.nxt σ') ∧ R (k + items.length) σ'
  | [], k, σ, h, _ => ⟨σ, rfl, h⟩
  | t :: ts, k, σ, h, f => by
    refine xa_1_2 (f 0 σ t rfl h) fun σ1 h1 h2 => ?_
    obtain ⟨σ', h3, h4⟩ := for_inv (items := ts) (k := k + 1) h2 (fun j σ u hj hr => by
      have := f (j + 1) σ u (by simpa using hj) (by rw [show k + (j + 1) = k + 1 + j by omega]; exact hr)
      rwa [show k + (j + 1) + 1 = k + 1 + j + 1 by omega] at this)
    refine ⟨σ', ?_, by rw [List.length_cons, show k + (ts.length + 1) = k + 1 + ts.length by omega]; exact h4⟩
    unfold runFor
    rw [h1]; exact h3
section
variable {c : Addr → List T → Option T} {σ : List LV} {ms : List MS} {o : Out}
theorem st_setd {i k e lv lv' kk t} (h0 : σ[i]? = some lv) (h1 : ev c false (σ.set i .undef) k = some kk) (h2 : ev c false (σ.set i .undef) e = some t) (h3 : setdV lv kk t = some lv') (hk : exs c ms (σ.set i lv') = some o) : exs c (.setd i k e :: ms) σ = some o := by
  show (match (do let lv ← σ[i]?; let kk ← ev c false (σ.set i .undef) k; let t ← ev c false (σ.set i .undef) e; pure (.nxt (σ.set i (← setdV lv kk t))) : Option Out) with | some (.nxt σ') => exs c ms σ' | r => r) = _
  rw [h0]
  show (match (do let kk ← ev c false (σ.set i .undef) k; let t ← ev c false (σ.set i .undef) e; pure (.nxt (σ.set i (← setdV lv kk t))) : Option Out) with | some (.nxt σ') => exs c ms σ' | r => r) = _
  rw [h1]
  show (match (do let t ← ev c false (σ.set i .undef) e; pure (.nxt (σ.set i (← setdV lv kk t))) : Option Out) with | some (.nxt σ') => exs c ms σ' | r => r) = _
  rw [h2]
  show (match (do pure (.nxt (σ.set i (← setdV lv kk t))) : Option Out) with | some (.nxt σ') => exs c ms σ' | r => r) = _
  rw [h3]; exact hk
theorem st_put {i k e lv lv' kk t} (h0 : σ[i]? = some lv) (h1 : ev c false σ k = some kk) (h2 : ev c false σ e = some t) (h3 : putV lv kk t = some lv') (hk : exs c ms (σ.set i lv') = some o) : exs c (.put i k e :: ms) σ = some o := by
  show (match (do let lv ← σ[i]?; let t ← ev c false σ e; let kk ← ev c false σ k; pure (.nxt (σ.set i (← putV lv kk t))) : Option Out) with | some (.nxt σ') => exs c ms σ' | r => r) = _
  rw [h0]
  show (match (do let t ← ev c false σ e; let kk ← ev c false σ k; pure (.nxt (σ.set i (← putV lv kk t))) : Option Out) with | some (.nxt σ') => exs c ms σ' | r => r) = _
  rw [h2]
  show (match (do let kk ← ev c false σ k; pure (.nxt (σ.set i (← putV lv kk t))) : Option Out) with | some (.nxt σ') => exs c ms σ' | r => r) = _
  rw [h1]
  show (match (do pure (.nxt (σ.set i (← putV lv kk t))) : Option Out) with | some (.nxt σ') => exs c ms σ' | r => r) = _
  rw [h3]; exact hk
theorem st_asgD {i} (hk : exs c ms (σ.set i (.ownd [] [])) = some o) : exs c (.asgD i :: ms) σ = some o := hk
theorem st_retO {i l} (h0 : σ[i]? = some (.own l)) : exs c (.retO i :: ms) σ = some (.retO l) := by
  show (match (do pure (.retO (← ownOf σ[i]?)) : Option Out) with | some (.nxt σ') => exs c ms σ' | r => r) = _
  rw [h0]; rfl
theorem st_asgK {i nm f l ts rs} (h : evL c false σ l = some ts) (h1 : c f ts = some (.list rs)) (k : exs c ms (σ.set i (.own rs)) = some o) : exs c (.asgK i nm f l :: ms) σ = some o := by
  show (match (do let ts ← evL c false σ l; match c f ts with | some (.list l') => pure (.nxt (σ.set i (.own l'))) | _ => none : Option Out) with | some (.nxt σ') => exs c ms σ' | r => r) = _
  rw [h]
  show (match (match c f ts with | some (.list l') => pure (.nxt (σ.set i (.own l'))) | _ => none : Option Out) with | some (.nxt σ') => exs c ms σ' | r => r) = _
  rw [h1]; exact k
end
noncomputable def dl : List Str → List (List T) → Str → Option (List T)
  | k :: ks, l :: ls, x => if k = x then some l else dl ks ls x
  | _, _, _ => none
theorem dl_cons (k : Str) (ks : List Str) (l : List T) (ls : List (List T)) (x : Str) : dl (k :: ks) (l :: ls) x = if k = x then some l else dl ks ls x := rfl
theorem dl_look : ∀ (ks : List Str) (ls : List (List T)) (x : Str), dlook ks (ls.map .list) x = (dl ks ls x).map .list
  | [], _, _ => rfl
  | _ :: _, [], _ => rfl
  | k :: ks, l :: ls, x => by
    rw [List.map_cons]
    unfold dlook dl
    split
    · rfl
    · exact dl_look ks ls x
theorem dl_none {x : Str} : ∀ {ks : List Str} {ls : List (List T)}, ks.contains x = false → dl ks ls x = none
  | [], _, _ => rfl
  | _ :: _, [], _ => rfl
  | k :: ks, l :: ls, h => by
    rw [List.contains_cons, Bool.or_eq_false_iff] at h
    have hk : ¬ k = x := by rintro rfl; simp at h
    unfold dl
    rw [if_neg hk]; exact dl_none h.2
theorem dl_snoc {x y : Str} {u : List T} : ∀ {ks : List Str} {ls : List (List T)}, ks.length = ls.length → ks.contains x = false → dl (ks ++ [x]) (ls ++ [u]) y = if x = y then some u else dl ks ls y
  | [], [], _, _ => rfl
  | [], _ :: _, h, _ => by cases h
  | _ :: _, [], h, _ => by cases h
  | k :: ks, l :: ls, h, hc => by
    rw [List.contains_cons, Bool.or_eq_false_iff] at hc
    have hk : ¬ x = k := by rintro rfl; simp at hc
    show (if k = y then some l else dl (ks ++ [x]) (ls ++ [u]) y) = _
    rw [dl_snoc (by simpa using h) hc.2, dl_cons]
    by_cases hy : k = y
    · subst hy; rw [if_pos rfl, if_neg hk, if_pos rfl]
    · rw [if_neg hy, if_neg hy]
theorem dl_app {x y : Str} {u : T} : ∀ {ks : List Str} {ls : List (List T)}, ks.length = ls.length → ks.contains x = true → dl ks (appAt ks ls x u) y = if x = y then some ((dl ks ls x).getD [] ++ [u]) else dl ks ls y
  | [], _, _, h => by exact ff_el h
  | _ :: _, [], h, _ => by cases h
  | k :: ks, l :: ls, h, hc => by
    unfold appAt
    by_cases hk : k = x
    · subst hk
      rw [if_pos rfl, dl_cons, dl_cons, dl_cons, if_pos rfl]
      by_cases hy : k = y
      · rw [if_pos hy, if_pos hy]; rfl
      · rw [if_neg hy, if_neg hy, if_neg hy]
    · have hc' : ks.contains x = true := by
        rw [List.contains_cons] at hc
        have : ¬ x = k := fun e => hk e.symm
        simpa [this] using hc
      rw [if_neg hk]
      have ih := dl_app (y := y) (u := u) (ls := ls) (by simpa using h) hc'
      rw [dl_cons, dl_cons, dl_cons, if_neg hk]
      by_cases hy : k = y
      · subst hy
        rw [if_pos rfl, if_neg (fun e => hk e.symm), if_pos rfl]
      · rw [if_neg hy, if_neg hy]; exact ih
theorem rk_inj (sp : Bool) {f g : Nat} (hf : f < 5) (hg : g < 5) (h : rk sp f = rk sp g) : f = g := by
  have : ∀ sp : Bool, ∀ f : Fin 5, ∀ g : Fin 5, rk sp f.1 = rk sp g.1 → f = g := by decide +kernel
  exact congrArg Fin.val (this sp ⟨f, hf⟩ ⟨g, hg⟩ h)
noncomputable def posn (b : List Nat) (f : Nat) (m : Nat) : List Nat := (List.range m).filter fun j => b[j]? == some f
theorem posn_succ (b : List Nat) (f m : Nat) : posn b f (m + 1) = posn b f m ++ if b[m]? == some f then [m] else [] := by
  unfold posn
  rw [List.range_succ, List.filter_append, List.filter_cons, List.filter_nil]
noncomputable def matchedP (a b : List Nat) : List (Option Nat × Option Nat) := (List.range a.length).flatMap fun i => (posn b (a.getD i 4) b.length).map fun j => (some i, some j)
noncomputable def oi : Option Nat → T
  | some i => .int (i : Nat)
  | none => .none
noncomputable def pT (p : Option Nat × Option Nat) : T := .tup [oi p.1, oi p.2]
structure Tab (sp : Bool) (b : List Nat) (m : Nat) (ks : List Str) (ls : List (List T)) : Prop where
  len : ks.length = ls.length
  le : ks.length ≤ m
  ll : ∀ l ∈ ls, l.length ≤ m
  at_ : ∀ f, f < 5 → (dl ks ls (rk sp f)).getD [] = (posn b f m).map fun j => T.int (j : Nat)
theorem appAt_mem {x : Str} {u : T} : ∀ {ks : List Str} {ls : List (List T)} {l : List T}, l ∈ appAt ks ls x u → l ∈ ls ∨ ∃ l₀ ∈ ls, l = l₀ ++ [u]
  | [], _, _, h => .inl h
  | _ :: _, [], _, h => .inl h
  | k :: ks, l₀ :: ls, l, h => by
    unfold appAt at h
    split at h
    · rcases List.mem_cons.mp h with rfl | h
      · exact .inr ⟨l₀, .head _, rfl⟩
      · exact .inl (.tail _ h)
    · rcases List.mem_cons.mp h with rfl | h
      · exact .inl (.head _)
      · rcases appAt_mem h with h | ⟨l₁, h1, h2⟩
        · exact .inl (.tail _ h)
        · exact .inr ⟨l₁, .tail _ h1, h2⟩
theorem tab_step {sp : Bool} {b : List Nat} {m : Nat} {ks : List Str} {ls : List (List T)} (hm : m < b.length) (hb : small b) (hl : b.length ≤ 900) (H : Tab sp b m ks ls) {lv : LV} (hlv : asDl lv = some (ks, ls)) :
    ∃ ks' ls', setdV lv (.str (rk sp b[m])) (.int (m : Nat)) = some (.owndl ks' ls') ∧ Tab sp b (m + 1) ks' ls' := by
  have hf := hb b[m] (by simp)
  have hbm : b[m]? = some b[m] := by simp [hm]
  have hc : ks.length < 1000 ∧ (ls.all fun l => decide (l.length < 1000)) = true := ⟨by have := H.le; omega, List.all_eq_true.mpr fun l hl' => decide_eq_true (by have := H.ll l hl'; omega)⟩
  have key : ∀ f, f < 5 → (posn b f (m + 1)).map (fun j => T.int (j : Nat)) = if rk sp b[m] = rk sp f then (posn b f m).map (fun j => T.int (j : Nat)) ++ [.int (m : Nat)] else (posn b f m).map fun j => T.int (j : Nat) := fun f hf' => by
    rw [posn_succ, List.map_append, hbm]
    by_cases h : rk sp b[m] = rk sp f
    · have := rk_inj sp hf hf' h
      rw [if_pos h, this]; simp
    · rw [if_neg h]
      have : ¬ (some b[m] == some f) = true := by
        intro e
        have : b[m] = f := by simpa using e
        exact h (by rw [this])
      rw [if_neg this]; simp
  unfold setdV
  rw [hlv]
  dsimp only
  rw [if_pos hc]
  by_cases hx : ks.contains (rk sp b[m]) = true
  · rw [if_pos hx]
    refine ⟨_, _, rfl, by rw [appAt_length]; exact H.len, Nat.le_succ_of_le H.le, fun l hl' => ?_, fun f hf' => ?_⟩
    · rcases appAt_mem hl' with h | ⟨l₀, h, rfl⟩
      · have := H.ll l h; omega
      · have := H.ll l₀ h; rw [List.length_append, List.length_singleton]; omega
    · rw [dl_app H.len hx, key f hf']
      by_cases h : rk sp b[m] = rk sp f
      · rw [if_pos h, if_pos h, Option.getD_some, H.at_ _ hf, rk_inj sp hf hf' h]
      · rw [if_neg h, if_neg h]; exact H.at_ f hf'
  · have hx' : ks.contains (rk sp b[m]) = false := by simpa using hx
    rw [if_neg hx]
    refine ⟨_, _, rfl, by rw [List.length_append, List.length_append, H.len]; rfl, by rw [List.length_append, List.length_singleton]; have := H.le; omega, fun l hl' => ?_, fun f hf' => ?_⟩
    · rcases List.mem_append.mp hl' with h | h
      · have := H.ll l h; omega
      · rw [List.mem_singleton.mp h]; show 1 ≤ _; omega
    · rw [dl_snoc H.len hx', key f hf']
      by_cases h : rk sp b[m] = rk sp f
      · rw [if_pos h, if_pos h, Option.getD_some]
        have := H.at_ _ hf
        rw [dl_none hx', Option.getD_none] at this
        rw [← rk_inj sp hf hf' h, ← this]; rfl
      · rw [if_neg h, if_neg h]; exact H.at_ f hf'
theorem tab_zero (sp : Bool) (b : List Nat) : Tab sp b 0 [] [] := ⟨rfl, Nat.le_refl _, fun l h => (by cases h), fun f _ => rfl⟩
end Mine
end
section
open PySem PySem.W PySem.Spec PySem.SeqAt
set_option tactic.hygienic false
namespace Mine
noncomputable abbrev rkT (sp : Bool) (f : Nat) : T := .str (rk sp f)
theorem flat_le {α β : Type} {g : α → List β} {B : Nat} : ∀ {l : List α}, (∀ x ∈ l, (g x).length ≤ B) → (l.flatMap g).length ≤ l.length * B
  | [], _ => by simp
  | x :: l, h => by
    rw [List.flatMap_cons, List.length_append, List.length_cons, Nat.succ_mul]
    have := h x (.head _)
    have := flat_le (l := l) fun y hy => h y (.tail _ hy)
    omega
theorem posn_len (b : List Nat) (f m : Nat) : (posn b f m).length ≤ m := by
  unfold posn
  exact Nat.le_trans (List.length_filter_le _ _) (by rw [List.length_range]; exact Nat.le_refl _)
theorem matched_len {a b : List Nat} : (matchedP a b).length ≤ a.length * b.length := by
  unfold matchedP
  have := flat_le (l := List.range a.length) (g := fun i => (posn b (a.getD i 4) b.length).map fun j => (some i, some j)) (B := b.length) fun x _ => by rw [List.length_map]; exact posn_len _ _ _
  rwa [List.length_range] at this
theorem ints_get (m j : Nat) {t : T} (h : ((List.range m).map fun i => T.int (i : Nat))[j]? = some t) : t = .int (j : Nat) ∧ j < m := by
  rw [List.getElem?_map] at h
  refine Classical.byContradiction fun hCC => ?_
  refine xa_1_2 (Option.map_eq_some_iff.mp h) fun x h1 h2 => ?_
  obtain ⟨h3, h4⟩ := List.getElem?_eq_some_iff.mp h1
  refine hCC ?_
  clear hCC
  rw [List.length_range] at h3
  simp at h4
  subst h4
  exact ⟨h2.symm, h3⟩
theorem len_list (l : List T) (h : l.length ≤ 1000) : tcall .len [.list l] = some (.int l.length) := if_pos (le_lim h)
theorem flat1 (x : T) : ∀ l : List Nat, (l.map fun j => T.int (j : Nat)).flatMap (fun t => [T.tup [x, t]]) = l.map fun j => T.tup [x, .int (j : Nat)]
  | [] => rfl
  | j :: l => by rw [List.map_cons, List.flatMap_cons, flat1 x l]; rfl
theorem r_matched (n : Nat) (sp : Bool) (a b : List Nat) (ha : small a) (hb : small b) (hla : a.length ≤ 5) (hlb : b.length ≤ 5) :
    ct (n + 1) 684 [.list (a.map (rkT sp)), .list (b.map (rkT sp))] = some (.list ((matchedP a b).map pT)) := by
  refine ct_ofL f_matched_pairs.fe n (by kernel_rfl) rfl rfl rfl ?_
  generalize hA : T.list (a.map (rkT sp)) = A
  generalize hB : T.list (b.map (rkT sp)) = B
  refine st_asgD ?_
  -- the table
  obtain ⟨q1, q2⟩ := range_T b.length (by omega)
  obtain ⟨σ1, h1, h2⟩ := for_inv (step := fun σ t => exs (ct n) [.setd 2 (.idx (.var 1) (.var 3)) (.var 3)] (σ.set 3 (.frz t))) (R := fun m σ => ∃ lv u ks ls, σ = [.frz A, .frz B, lv, u, .undef, .undef] ∧ asDl lv = some (ks, ls) ∧ Tab sp b m ks ls)
    (items := (List.range b.length).map fun i => .int (i : Nat)) (k := 0) (σ := [.frz A, .frz B, .ownd [] [], .undef, .undef, .undef]) ⟨_, _, [], [], rfl, rfl, tab_zero sp b⟩ (fun j σ t ht ⟨lv, u, ks, ls, hσ, h3, h4⟩ => by
      subst hσ
      obtain ⟨rfl, hj⟩ := ints_get _ _ ht
      rw [Nat.zero_add] at h4 ⊢
      refine Classical.byContradiction fun hCC => ?_
      refine xa_2_2 (tab_step hj hb (by omega) h4 h3) fun ks' ls' g1 g2 => ?_
      refine hCC ?_
      clear hCC
      refine ⟨_, st_setd (lv := lv) (kk := .str (rk sp b[j])) (t := .int (j : Nat)) rfl (ev_idx (o := B) (u := .int (j : Nat)) rfl rfl ?_) rfl g1 st_nil, ⟨.owndl ks' ls', .frz (.int (j : Nat)), ks', ls', rfl, rfl, g2⟩⟩
      rw [← hB]; exact idx_map b (rkT sp) j hj (by omega))
  refine Classical.byContradiction fun hCC => ?_
  obtain ⟨lv, u, ks, ls, rfl, h3, h4⟩ := h2
  refine hCC ?_
  clear hCC
  rw [Nat.zero_add, List.length_map, List.length_range] at h4
  refine st_for (u := .rng 0 b.length 1) (ev_bcall (ts := [.int b.length]) (evL_cons (ev_bcall (ts := [B]) rfl (by rw [← hB, len_list _ (by rw [List.length_map]; omega), List.length_map])) evL_nil) q1) q2 h1 ?_
  have hfz : frzV lv = some (.dict ks (ls.map .list)) := by
    unfold asDl at h3
    split at h3
    · cases h3; rfl
    · cases h3; rfl
    · exact none_el h3
  refine st_frz rfl hfz (st_asgF (l := []) rfl ?_)
  -- the pairs
  obtain ⟨q3, q4⟩ := range_T a.length (by omega)
  have hlen : ∀ i, ((posn b (a.getD i 4) b.length).map fun j => pT (some i, some j)).length ≤ 5 := fun i => by rw [List.length_map]; exact Nat.le_trans (posn_len _ _ _) hlb
  obtain ⟨σ2, h5, h6⟩ := for_appL (step := fun σ t => exs (ct n) [.forI 5 (.meth .get (.var 2) [(.idx (.var 0) (.var 3)), (.list [])]) [.app 4 (.tup [(.var 3), (.var 5)])]] (σ.set 3 (.frz t)))
    (R := fun acc σ => ∃ u v, σ = [.frz A, .frz B, .frz (.dict ks (ls.map .list)), u, .own acc, v]) (g := fun t => match t with | .int i => (posn b (a.getD i.toNat 4) b.length).map fun j => pT (some i.toNat, some j) | _ => [])
    (items := (List.range a.length).map fun i => .int (i : Nat)) (acc := []) (σ := [.frz A, .frz B, .frz (.dict ks (ls.map .list)), u, .own [], .undef]) ⟨_, _, rfl⟩ (fun acc σ t ht hl ⟨u, v, hσ⟩ => by
      subst hσ
      refine xa_1_2 (List.mem_map.mp ht) fun i hi rq0 => ?_
      subst rq0
      have hi := List.mem_range.mp hi
      have hg : a.getD i 4 = a[i] := by simp [List.getD, hi]
      have hfi := ha a[i] (by simp)
      dsimp only at hl ⊢
      rw [show (i : Int).toNat = i from rfl] at hl ⊢
      have hget : tmeth .get (.dict ks (ls.map .list)) [.str (rk sp a[i]), .list []] = some (.list ((posn b a[i] b.length).map fun j => T.int (j : Nat))) := by
        show some ((dlook ks (ls.map .list) (rk sp a[i])).getD (.list [])) = _
        rw [dl_look, ← h4.at_ a[i] hfi]
        cases dl ks ls (rk sp a[i]) <;> rfl
      rw [hg] at hl ⊢
      have hpl := posn_len b a[i] b.length
      obtain ⟨σ3, h7, w, h8⟩ := for_appL (step := fun σ t => exs (ct n) [.app 4 (.tup [(.var 3), (.var 5)])] (σ.set 5 (.frz t))) (R := fun acc' σ => ∃ v, σ = [.frz A, .frz B, .frz (.dict ks (ls.map .list)), .frz (.int (i : Nat)), .own acc', v])
        (g := fun t => [.tup [.int (i : Nat), t]]) (items := (posn b a[i] b.length).map fun j => T.int (j : Nat)) (acc := acc) (σ := [.frz A, .frz B, .frz (.dict ks (ls.map .list)), .frz (.int (i : Nat)), .own acc, v]) ⟨_, rfl⟩ (fun acc' σ t ht hl' ⟨v, hσ⟩ => by
          subst hσ
          exact ⟨_, st_app (t := .tup [.int (i : Nat), t]) rfl (ev_tup rfl (show 2 ≤ lim by decide)) (by have : ([T.tup [.int (i : Nat), t]] : List T).length = 1 := rfl; exact lt_lim (by omega)) st_nil, _, rfl⟩)
          (by
            have := flat_le (l := (posn b a[i] b.length).map fun j => T.int (j : Nat)) (g := fun t => [T.tup [.int (i : Nat), t]]) (B := 1) fun x _ => Nat.le_refl _
            rw [List.length_map] at this hl
            omega)
      refine ⟨σ3, st_for (u := .list ((posn b a[i] b.length).map fun j => T.int (j : Nat))) (ev_meth (v := .dict ks (ls.map .list)) (ts := [.str (rk sp a[i]), .list []]) rfl (evL_cons (ev_idx (o := A) (u := .int (i : Nat)) rfl rfl (by rw [← hA]; exact idx_map a (rkT sp) i hi (by omega))) (evL_cons rfl evL_nil)) hget)
        (if_pos (by rw [List.length_map]; exact le_lim (by omega))) h7 st_nil, .frz (.int (i : Nat)), w, ?_⟩
      rw [h8, flat1]; rfl)
    (by
      have := flat_le (l := (List.range a.length).map fun i => T.int (i : Nat)) (g := fun t => match t with | .int i => (posn b (a.getD i.toNat 4) b.length).map fun j => pT (some i.toNat, some j) | _ => []) (B := 5) fun x hx => by
        refine xa_1_2 (List.mem_map.mp hx) fun i _ rq0 => ?_
        subst rq0
        exact hlen i
      rw [List.length_map, List.length_range] at this
      simp only [List.length_nil]; omega)
  refine xa_2_1 (h6) fun u' v' rq0 => ?_
  try clear h6
  subst rq0
  refine st_for (u := .rng 0 a.length 1) (ev_bcall (ts := [.int a.length]) (evL_cons (ev_bcall (ts := [A]) rfl (by rw [← hA, len_list _ (by rw [List.length_map]; omega), List.length_map])) evL_nil) q3) q4 h5 ?_
  refine (st_retO rfl).trans ?_
  congr 2
  rw [List.nil_append, List.flatMap_map]
  unfold matchedP
  rw [List.map_flatMap]
  congr 1
  funext i
  rw [List.map_map]; rfl
end Mine
end
section
open PySem PySem.W PySem.Spec PySem.SeqAt
set_option tactic.hygienic false
namespace Mine
noncomputable def loneP (a b : List Nat) : List Nat := (List.range a.length).filter fun i => !b.contains (a.getD i 4)
theorem contains_map_inj (sp : Bool) (b : List Nat) (hb : small b) (f : Nat) (hf : f < 5) : (b.map (rk sp)).contains (rk sp f) = b.contains f := by
  rw [Bool.eq_iff_iff, List.contains_iff_mem, List.contains_iff_mem, List.mem_map]
  constructor
  · rintro ⟨g, h1, h2⟩
    rw [← rk_inj sp (hb g h1) hf h2]; exact h1
  · exact fun h => ⟨f, h, rfl⟩
theorem tcmp_notin_dict (k : Str) (ks : List Str) (ts : List T) : tcmp .NotIn (.str k) (.dict ks ts) = some (!ks.contains k) := rfl
theorem r_lone (n : Nat) (sp : Bool) (a b : List Nat) (ha : small a) (hb : small b) (hla : a.length ≤ 5) (hlb : b.length ≤ 5) :
    ct (n + 1) 689 [.list (a.map (rkT sp)), .list (b.map (rkT sp))] = some (.list ((loneP a b).map fun i => .int (i : Nat))) := by
  refine ct_of f_lone_places.fe n (by kernel_rfl) rfl rfl rfl ?_
  generalize hA : T.list (a.map (rkT sp)) = A
  generalize hB : T.list (b.map (rkT sp)) = B
  refine st_asgD ?_
  obtain ⟨σ1, h1, h2⟩ := for_inv (step := fun σ t => exs (ct n) [.put 2 (.var 3) (.bool true)] (σ.set 3 (.frz t))) (R := fun m σ => ∃ ks ts u, σ = [.frz A, .frz B, .ownd ks ts, u] ∧ ks.length ≤ m ∧ ∀ f, f < 5 → ks.contains (rk sp f) = (b.take m).contains f)
    (items := b.map (rkT sp)) (k := 0) (σ := [.frz A, .frz B, .ownd [] [], .undef]) ⟨[], [], _, rfl, Nat.le_refl _, fun f _ => by rw [List.take_zero]; rfl⟩ (fun j σ t ht ⟨ks, ts, u, hσ, h3, h4⟩ => by
      subst hσ
      rw [Nat.zero_add] at h3 h4 ⊢
      rw [List.getElem?_map] at ht
      refine xa_1_2 (Option.map_eq_some_iff.mp ht) fun f hf rq0 => ?_
      subst rq0
      have hjl := (List.getElem?_eq_some_iff.mp hf).1
      have hf5 := hb f (List.mem_of_getElem? hf)
      have htk : b.take (j + 1) = b.take j ++ [f] := by rw [List.take_succ, hf]; rfl
      have hput : putV (.ownd ks ts) (rkT sp f) (.bool true) = some (if ks.contains (rk sp f) then .ownd ks (dputAt ks ts (rk sp f) (.bool true)) else .ownd (ks ++ [rk sp f]) (ts ++ [.bool true])) := by
        show (if ks.length < 1000 then (if ks.contains (rk sp f) then some (LV.ownd ks (dputAt ks ts (rk sp f) (.bool true))) else some (.ownd (ks ++ [rk sp f]) (ts ++ [.bool true]))) else none) = _
        rw [if_pos (by omega)]
        split <;> rfl
      by_cases hc : ks.contains (rk sp f) = true
      · rw [if_pos hc] at hput
        refine ⟨_, st_put (lv := .ownd ks ts) (kk := rkT sp f) (t := .bool true) rfl rfl rfl hput st_nil, ks, _, .frz (rkT sp f), rfl, by omega, fun g hg => ?_⟩
        rw [h4 g hg, htk, List.contains_append]
        have hin : (b.take j).contains f = true := by rw [← h4 f hf5]; exact hc
        by_cases hgf : g = f
        · subst hgf; rw [hin]; rfl
        · have : ([f] : List Nat).contains g = false := by simp [hgf]
          rw [this, Bool.or_false]
      · rw [if_neg hc] at hput
        refine ⟨_, st_put (lv := .ownd ks ts) (kk := rkT sp f) (t := .bool true) rfl rfl rfl hput st_nil, ks ++ [rk sp f], _, .frz (rkT sp f), rfl, by rw [List.length_append, List.length_singleton]; omega, fun g hg => ?_⟩
        rw [List.contains_append, h4 g hg, htk, List.contains_append]
        congr 1
        have := contains_map_inj sp [f] (fun x hx => by rw [List.mem_singleton.mp hx]; exact hf5) g hg
        exact this)
  refine Classical.byContradiction fun hCC => ?_
  refine xa_3_3 (h2) fun ks ts u rq0 h3 h4 => ?_
  try clear h2
  subst rq0
  refine hCC ?_
  clear hCC
  rw [Nat.zero_add, List.length_map, List.take_length] at h4
  refine st_for (u := B) rfl (by rw [← hB]; exact if_pos (by rw [List.length_map]; exact le_lim (by omega))) h1 (st_frz rfl rfl ?_)
  obtain ⟨q1, q2⟩ := range_T a.length (by omega)
  refine st_ret (ev_comp (u := .rng 0 a.length 1) (ev_bcall (ts := [.int a.length]) (evL_cons (ev_bcall (ts := [A]) rfl (by rw [← hA, len_list _ (by rw [List.length_map]; omega), List.length_map])) evL_nil) q1) q2 ?_)
  have := comp_filter (test := fun t => evC (ct n) ([LV.frz A, LV.frz B, LV.frz (.dict ks ts), u] ++ [LV.frz t]) (some (.cmp .NotIn (.idx (.var 0) (.var 4)) (.var 2)))) (f := fun t => ev (ct n) false ([LV.frz A, LV.frz B, LV.frz (.dict ks ts), u] ++ [LV.frz t]) (.var 4))
    (p := fun t => match t with | .int i => !b.contains (a.getD i.toNat 4) | _ => false) (g := fun t => t) (items := (List.range a.length).map fun i => T.int (i : Nat)) fun t ht => by
      obtain ⟨i, hi, rfl⟩ := List.mem_map.mp ht
      have hi := List.mem_range.mp hi
      have hg : a.getD i 4 = a[i] := by simp [List.getD, hi]
      refine ⟨?_, fun _ => rfl⟩
      show (do asB (← ev (ct n) false ([LV.frz A, LV.frz B, LV.frz (.dict ks ts), u] ++ [LV.frz (.int (i : Nat))]) (.cmp .NotIn (.idx (.var 0) (.var 4)) (.var 2)))) = _
      rw [ev_cmp (x := .str (rk sp a[i])) (y := .dict ks ts) (ev_idx (o := A) (u := .int (i : Nat)) rfl rfl (by rw [← hA]; exact idx_map a (rkT sp) i hi (by omega))) rfl (tcmp_notin_dict _ _ _)]
      show some (!ks.contains (rk sp a[i])) = some (!b.contains (a.getD i 4))
      rw [h4 _ (ha a[i] (by simp)), hg]
  refine this.trans ?_
  congr 1
  rw [List.map_id', List.filter_map]
  rfl
noncomputable def pairsP (a b : List Nat) (x y : Bool) : List (Option Nat × Option Nat) :=
  matchedP a b ++ (if x then (loneP a b).map fun i => (some i, none) else []) ++ (if y then (loneP b a).map fun j => (none, some j) else [])
theorem lone_len (a b : List Nat) : (loneP a b).length ≤ a.length := by
  unfold loneP
  exact Nat.le_trans (List.length_filter_le _ _) (by rw [List.length_range]; exact Nat.le_refl _)
theorem flat2 (k : T → T) : ∀ l : List T, l.flatMap (fun t => [k t]) = l.map k
  | [] => rfl
  | j :: l => by rw [List.map_cons, List.flatMap_cons, flat2 k l]; rfl
theorem r_merged (n : Nat) (sp : Bool) (a b : List Nat) (x y : Bool) (ha : small a) (hb : small b) (hla : a.length ≤ 5) (hlb : b.length ≤ 5) :
    ct (n + 2) 703 [.list (a.map (rkT sp)), .list (b.map (rkT sp)), .bool x, .bool y] = some (.list ((pairsP a b x y).map pT)) := by
  refine ct_of f_merged_pairs.fe (n + 1) (by kernel_rfl) rfl rfl rfl ?_
  have hm := r_matched n sp a b ha hb hla hlb
  have hl1 := r_lone n sp a b ha hb hla hlb
  have hl2 := r_lone n sp b a hb ha hlb hla
  generalize hA : T.list (a.map (rkT sp)) = A at hm hl1 hl2
  generalize hB : T.list (b.map (rkT sp)) = B at hm hl1 hl2
  have hml : (matchedP a b).length ≤ 25 := Nat.le_trans matched_len (Nat.mul_le_mul hla hlb)
  have e1 := lone_len a b
  have e2 := lone_len b a
  refine st_asgK (ts := [A, B]) rfl hm ?_
  -- one side
  have side : ∀ (acc : List T) (u : LV) (k : T → T) (p q : ME) (X Y : T) (l : List Nat) (e : ME) , acc.length ≤ 30 → l.length ≤ 5 →
      (∀ σ acc u t, σ = [LV.frz A, .frz B, .frz X, .frz Y, .own acc, u] → ev (ct (n + 1)) false (σ.set 5 (.frz t)) (.tup [p, q]) = some (k t)) →
      ∃ σ' u', runFor (fun σ t => exs (ct (n + 1)) [.app 4 (.tup [p, q])] (σ.set 5 (.frz t))) (l.map fun i => T.int (i : Nat)) [LV.frz A, .frz B, .frz X, .frz Y, .own acc, u] = some (.nxt σ') ∧ σ' = [LV.frz A, .frz B, .frz X, .frz Y, .own (acc ++ l.map fun i => k (.int (i : Nat))), u'] := by
    intro acc u k p q X Y l e hacc hl hk
    obtain ⟨σ', h1, u', h2⟩ := for_appL (step := fun σ t => exs (ct (n + 1)) [.app 4 (.tup [p, q])] (σ.set 5 (.frz t))) (R := fun acc σ => ∃ u, σ = [LV.frz A, .frz B, .frz X, .frz Y, .own acc, u]) (g := fun t => [k t]) (items := l.map fun i => T.int (i : Nat)) (acc := acc)
      (σ := [LV.frz A, .frz B, .frz X, .frz Y, .own acc, u]) ⟨_, rfl⟩ (fun acc σ t ht hla ⟨u, hσ⟩ => by
        subst hσ
        exact ⟨_, st_app (t := k t) rfl (hk _ acc u t rfl) (by have : ([k t] : List T).length = 1 := rfl; exact lt_lim (by omega)) st_nil, _, rfl⟩) (by rw [flat2, List.length_map, List.length_map]; omega)
    refine ⟨σ', u', h1, ?_⟩
    rw [h2, flat2, List.map_map]; rfl
  have fin : ∀ (acc : List T) (u : LV), exs (ct (n + 1)) [.frz 4, .ret (.var 4)] [LV.frz A, .frz B, .frz (.bool x), .frz (.bool y), .own acc, u] = some (.ret (.list acc)) := fun acc u => st_frz rfl rfl (st_ret rfl)
  have second : ∀ (acc : List T) (u : LV), acc.length ≤ 30 → exs (ct (n + 1)) [.ite (.var 3) [.forI 5 (.call "lone_places" 689 [(.var 1), (.var 0)]) [.app 4 (.tup [.none, (.var 5)])]] [], .frz 4, .ret (.var 4)] [LV.frz A, .frz B, .frz (.bool x), .frz (.bool y), .own acc, u]
      = some (.ret (.list (acc ++ (if y then (loneP b a).map fun j => pT (none, some j) else [])))) := by
    intro acc u hacc
    cases y with
    | true =>
      obtain ⟨σ', u', h1, rfl⟩ := side acc u (fun t => .tup [.none, t]) .none (.var 5) (.bool x) (.bool true) (loneP b a) .none hacc (by omega) (fun σ acc u t hσ => by subst hσ; exact ev_tup rfl (show 2 ≤ lim by decide))
      exact st_ite (v := true) (r := .nxt _) rfl (st_for (u := .list ((loneP b a).map fun i => .int (i : Nat))) (ev_call (ts := [B, A]) rfl hl2) (if_pos (by rw [List.length_map]; exact le_lim (by omega))) h1 st_nil) (fin _ _)
    | false =>
      refine st_ite (v := false) (r := .nxt _) rfl st_nil ((fin _ _).trans ?_)
      rw [if_neg Bool.false_ne_true, List.append_nil]
  cases x with
  | true =>
    obtain ⟨σ', u', h1, rfl⟩ := side ((matchedP a b).map pT) .undef (fun t => .tup [t, .none]) (.var 5) .none (.bool true) (.bool y) (loneP a b) .none (by rw [List.length_map]; omega) (by omega) (fun σ acc u t hσ => by subst hσ; exact ev_tup rfl (show 2 ≤ lim by decide))
    refine st_ite (v := true) (r := .nxt _) rfl (st_for (u := .list ((loneP a b).map fun i => .int (i : Nat))) (ev_call (ts := [A, B]) rfl hl1) (if_pos (by rw [List.length_map]; exact le_lim (by omega))) h1 st_nil) ((second _ _ ?_).trans ?_)
    · rw [List.length_append, List.length_map, List.length_map]; omega
    · congr 3
      unfold pairsP
      rw [List.map_append, List.map_append, if_pos rfl, List.map_map]
      cases y <;> simp [pT, oi, Function.comp_def]
  | false =>
    refine st_ite (v := false) (r := .nxt _) rfl st_nil ((second _ _ ?_).trans ?_)
    · rw [List.length_map]; omega
    · congr 3
      unfold pairsP
      rw [List.map_append, List.map_append, if_neg Bool.false_ne_true]
      cases y <;> simp [pT, oi, Function.comp_def]
end Mine
end
section
open PySem PySem.W PySem.Spec PySem.SeqAt
set_option tactic.hygienic false
namespace Mine
section
variable {c : Addr → List T → Option T} {σ : List LV} {ms : List MS} {o : Out}
theorem st_ext {i e l ts} (h0 : σ[i]? = some (.own l)) (h : ev c false σ e = some (.list ts)) (hl : l.length + ts.length < lim) (k : exs c ms (σ.set i (.own (l ++ ts))) = some o) : exs c (.ext i e :: ms) σ = some o := by
  show (match (do let l ← ownOf σ[i]?; match ev c false σ e with | some (.list ts) => if l.length + ts.length < lim then pure (.nxt (σ.set i (.own (l ++ ts)))) else none | _ => none : Option Out) with | some (.nxt σ') => exs c ms σ' | r => r) = _
  rw [h0, h]
  show (match (if l.length + ts.length < lim then pure (.nxt (σ.set i (.own (l ++ ts)))) else none : Option Out) with | some (.nxt σ') => exs c ms σ' | r => r) = _
  rw [if_pos hl]; exact k
theorem st_forU {is it b u items r} (h : ev c false σ it = some u) (h1 : iterT u = some items) (h2 : runFor (fun σ t => match t with | .tup ts => (setAll σ is ts).bind (exs c b) | _ => none) items σ = some r) (k : (match (some r : Option Out) with | some (.nxt σ') => exs c ms σ' | r => r) = some o) :
    exs c (.forU is it b :: ms) σ = some o := by
  show (match (do runFor (fun σ t => match t with | .tup ts => (setAll σ is ts).bind (exs c b) | _ => none) (← iterT (← ev c false σ it)) σ : Option Out) with | some (.nxt σ') => exs c ms σ' | r => r) = _
  rw [h]
  show (match (do runFor (fun σ t => match t with | .tup ts => (setAll σ is ts).bind (exs c b) | _ => none) (← iterT u) σ : Option Out) with | some (.nxt σ') => exs c ms σ' | r => r) = _
  rw [h1]
  show (match runFor (fun σ t => match t with | .tup ts => (setAll σ is ts).bind (exs c b) | _ => none) items σ with | some (.nxt σ') => exs c ms σ' | r => r) = _
  rw [h2]; exact k
end
theorem run_cons {step : List LV → T → Option Out} {σ σ1 : List LV} {t : T} {ts : List T} {r : Out} (h : step σ t = some (.nxt σ1)) (k : runFor step ts σ1 = some r) : runFor step (t :: ts) σ = some r := by
  unfold runFor
  rw [h]; exact k
theorem r_kept (n : Nat) (k i : T) : ct (n + 1) 634 [vecN k i] = some .none := by kernel_rfl
noncomputable def pk (l : List T) : Option Nat → T
  | some i => l.getD i .none
  | none => .none
theorem getD_lt {l : List T} {i : Nat} (h : i < l.length) : l.getD i .none = l[i] := by simp [List.getD, h]
theorem r_pick (n : Nat) (k : T) (hk : ct (n + 1) 641 [k] = some .none) (l : List T) (ps : List (Option Nat)) (hb : ∀ i, some i ∈ ps → i < l.length) (hl : l.length ≤ 100) (hp : ps.length ≤ 100) :
    ct (n + 2) 648 [vecN k (.list l), .list (ps.map oi)] = some (vecN k (.list (ps.map (pk l)))) := by
  refine ct_of f_pick_items.fe (n + 1) (by kernel_rfl) rfl rfl rfl ?_
  generalize hA : vecN k (.list l) = A
  generalize hP : T.list (ps.map oi) = P
  refine st_asgF (l := []) rfl (st_asg (t := .int l.length) (ev_bcall (ts := [.list l]) (by rw [← hA]; rfl) (len_list _ (by omega))) ?_)
  obtain ⟨σ1, h1, u, h2⟩ := for_appL (step := fun σ t => exs (ct (n + 1)) [.ite (.bop .Or [(.cmp .Is (.var 4) .none), (.cmp .GtE (.var 4) (.var 3))]) [.app 2 (.call "lacking" 641 [(.attr (.var 0) "kind")])] [.app 2 (.idx (.attr (.var 0) "items") (.var 4))]] (σ.set 4 (.frz t)))
    (R := fun acc σ => ∃ u, σ = [.frz A, .frz P, .own acc, .frz (.int l.length), u]) (g := fun t => match t with | .int i => [l.getD i.toNat .none] | _ => [.none]) (items := ps.map oi) (acc := []) (σ := [.frz A, .frz P, .own [], .frz (.int l.length), .undef]) ⟨_, rfl⟩
    (fun acc σ t ht hla ⟨u, hσ⟩ => by
      subst hσ
      obtain ⟨p, hp', rfl⟩ := List.mem_map.mp ht
      cases p with
      | none =>
        refine ⟨_, st_ite (v := true) (r := .nxt _) rfl (st_app (t := .none) rfl (ev_call (ts := [k]) (by rw [← hA]; rfl) hk) (by have : ([T.none] : List T).length = 1 := rfl; exact lt_lim (by change acc.length + 1 ≤ 999 at hla; omega)) st_nil) st_nil, _, rfl⟩
      | some i =>
        have hi := hb i hp'
        have hge : ev (ct (n + 1)) false [LV.frz A, .frz P, .own acc, .frz (.int l.length), .frz (.int (i : Nat))] (.bop .Or [(.cmp .Is (.var 4) .none), (.cmp .GtE (.var 4) (.var 3))]) = some (.bool false) := by
          show some (T.bool (decide ((l.length : Int) ≤ (i : Int)))) = _
          rw [decide_eq_false (by omega)]
        refine ⟨_, st_ite (v := false) (r := .nxt _) hge (st_app (t := l[i]) rfl (ev_idx (o := .list l) (u := .int (i : Nat)) (by rw [← hA]; rfl) rfl (idx_list l i hi (by omega))) (lt_lim (by change acc.length + 1 ≤ 999 at hla; omega)) st_nil) st_nil, .frz (.int (i : Nat)), ?_⟩
        show _ = [LV.frz A, .frz P, .own (acc ++ [l.getD i .none]), .frz (.int l.length), .frz (.int (i : Nat))]
        rw [getD_lt hi]; rfl) (by
      have := flat_le (l := ps.map oi) (g := fun t => match t with | .int i => [l.getD i.toNat .none] | _ => [T.none]) (B := 1) fun x hx => by split <;> exact Nat.le_refl _
      rw [List.length_map] at this
      simp only [List.length_nil]; omega)
  subst h2
  refine st_for (u := P) rfl (by rw [← hP]; exact if_pos (by rw [List.length_map]; exact le_lim (by omega))) h1 (st_frz rfl rfl (st_ret ?_))
  have e : [] ++ (ps.map oi).flatMap (fun t => match t with | .int i => [l.getD i.toNat .none] | _ => [T.none]) = ps.map (pk l) := by
    rw [List.nil_append]
    clear h1 hP hb hp
    induction ps with
    | nil => rfl
    | cons p ps ih =>
      rw [List.map_cons, List.flatMap_cons, List.map_cons, ih]
      cases p <;> rfl
  rw [e]
  exact ev_call (ts := [k, .list (ps.map (pk l)), .none]) (evL_cons (by rw [← hA]; rfl) (evL_cons rfl (evL_cons (ev_call (ts := [A]) rfl (by rw [← hA]; exact r_kept n k (.list l))) evL_nil))) rfl
theorem r_lacking (n : Nat) (sp : Bool) : ct (n + 1) 641 [kd sp] = some .none := by cases sp <;> kernel_rfl
theorem r_common (n : Nat) (sp : Bool) : ct (n + 2) 421 [.list [kd sp, kd sp]] = some (kd sp) := by cases sp <;> kernel_rfl
theorem kd_eq (sp : Bool) : tcmp .Eq (kd sp) (kd sp) = some true := by cases sp <;> kernel_rfl
theorem r_joined (n : Nat) (sp : Bool) (a b : List Nat) (hla : a.length ≤ 5) (hlb : b.length ≤ 5) : ct (n + 4) 660 [.list [col sp a, col sp b]] = some (col sp (a ++ b)) := by
  refine ct_of f_joined_column.fe (n + 3) (by kernel_rfl) rfl rfl rfl ?_
  have fa := r_is_factor n sp a
  have fb := r_is_factor n sp b
  have ka : tattr (col sp a) "kind" = some (kd sp) := rfl
  have kb : tattr (col sp b) "kind" = some (kd sp) := rfl
  refine st_ite (v := false) (r := .nxt _) (ev_call (ts := [col sp a]) (by kernel_rfl) fa) st_nil ?_
  refine st_asgF (l := []) rfl ?_
  refine st_for (u := .list [col sp a, col sp b]) (r := .nxt [.frz (.list [col sp a, col sp b]), .own [col sp a, col sp b], .frz (col sp b), .undef, .undef]) rfl rfl ?_ (st_frz rfl rfl ?_)
  · have s1 : ∀ (acc : List T) (u : LV) (x : List Nat), acc.length ≤ 5 → ct (n + 3) 603 [col sp x] = some (.bool false) → exs (ct (n + 3)) [.app 1 (.ite (.call "is_factor" 603 [(.var 2)]) (.call "character" 336 [(.call "label_texts" 383 [(.var 2)])]) (.var 2))] ([LV.frz (.list [col sp a, col sp b]), .own acc, u, .undef, .undef].set 2 (.frz (col sp x)))
        = some (.nxt [.frz (.list [col sp a, col sp b]), .own (acc ++ [col sp x]), .frz (col sp x), .undef, .undef]) := fun acc u x hl hf =>
      st_app (t := col sp x) rfl (ev_ite (v := false) (ev_call (ts := [col sp x]) rfl hf) rfl) (lt_lim (by omega)) st_nil
    exact run_cons (s1 [] .undef a (by decide) fa) (run_cons (s1 [col sp a] _ b (by show 1 ≤ 5; decide) fb) rfl)
  · refine st_asg (t := kd sp) (ev_call (ts := [.list [kd sp, kd sp]]) (by kernel_rfl) (r_common (n + 1) sp)) (st_asgF (l := []) rfl ?_)
    refine st_for (u := .list [col sp a, col sp b]) (r := .nxt [.frz (.list [col sp a, col sp b]), .frz (.list [col sp a, col sp b]), .frz (col sp b), .frz (kd sp), .own ((a ++ b).map (kv sp))]) rfl rfl ?_ (st_frz rfl rfl (st_ret ?_))
    · have s2 : ∀ (acc : List T) (u : LV) (x : List Nat), acc.length ≤ 5 → x.length ≤ 5 → exs (ct (n + 3)) [.ite (.cmp .Eq (.attr (.var 2) "kind") (.var 3)) [.ext 4 (.attr (.var 2) "items")] [.ite (.cmp .Eq (.var 3) (.str "list")) [.ext 4 (.attr .opq "items")] [.ext 4 (.attr (.call "as_kind" 522 [(.var 2), (.var 3), (.list [])]) "items")]]]
          ([LV.frz (.list [col sp a, col sp b]), .frz (.list [col sp a, col sp b]), u, .frz (kd sp), .own acc].set 2 (.frz (col sp x))) = some (.nxt [.frz (.list [col sp a, col sp b]), .frz (.list [col sp a, col sp b]), .frz (col sp x), .frz (kd sp), .own (acc ++ x.map (kv sp))]) := fun acc u x hl hx =>
        st_ite (v := true) (r := .nxt _) (ev_cmp (x := kd sp) (y := kd sp) (ev_attr (o := col sp x) rfl rfl) rfl (kd_eq sp)) (st_ext (ts := x.map (kv sp)) rfl (ev_attr (o := col sp x) rfl rfl) (lt_lim (by rw [List.length_map]; omega)) st_nil) st_nil
      have e : [] ++ a.map (kv sp) ++ b.map (kv sp) = (a ++ b).map (kv sp) := by rw [List.nil_append, List.map_append]
      exact run_cons (s2 [] _ a (by decide) hla) (run_cons (s2 _ _ b (by rw [List.nil_append, List.length_map]; exact hla) hlb) (by rw [e]; rfl))
    · exact ev_call (ts := [kd sp, .list ((a ++ b).map (kv sp)), .none]) (evL_cons rfl (evL_cons rfl (evL_cons (ev_call (ts := [col sp a]) (by kernel_rfl) (r_kept (n + 2) (kd sp) _)) evL_nil))) rfl
end Mine
end
section
open PySem PySem.W PySem.Spec PySem.SeqAt
set_option tactic.hygienic false
namespace Mine
noncomputable def figP (a b : List Nat) : Option Nat × Option Nat → Nat
  | (some i, _) => a.getD i 4
  | (none, some j) => b.getD j 4
  | (none, none) => 4
noncomputable def okP (a b : List Nat) : Option Nat × Option Nat → Prop
  | (some i, some j) => i < a.length ∧ j < b.length
  | (some i, none) => i < a.length
  | (none, some j) => j < b.length
  | (none, none) => False
theorem okP_fst {a b : List Nat} {i : Nat} {q : Option Nat} (h : okP a b (some i, q)) : i < a.length := by
  cases q with
  | none => exact h
  | some j => exact h.1
noncomputable def plc (a : List Nat) : Option Nat × Option Nat → Nat
  | (some i, _) => i
  | (none, some j) => a.length + j
  | (none, none) => 0
theorem plc_lt {a b : List Nat} {p : Option Nat × Option Nat} (h : okP a b p) : plc a p < (a ++ b).length := by
  rw [List.length_append]
  match p, h with
  | (some i, q), h => have := okP_fst h; show i < _; omega
  | (none, some j), h => have : j < b.length := h; show a.length + j < _; omega
theorem plc_fig {a b : List Nat} {p : Option Nat × Option Nat} (h : okP a b p) : (a ++ b).getD (plc a p) 4 = figP a b p := by
  match p, h with
  | (some i, q), h =>
    have := okP_fst h
    show (a ++ b).getD i 4 = a.getD i 4
    simp [List.getD, List.getElem?_append_left this]
  | (none, some j), h =>
    show (a ++ b).getD (a.length + j) 4 = b.getD j 4
    simp [List.getD, List.getElem?_append_right (Nat.le_add_right _ _)]
theorem getD_map_lt {α β : Type} (l : List α) (k : α → β) (i : Nat) (d : β) (d' : α) (h : i < l.length) : (l.map k).getD i d = k (l.getD i d') := by
  simp [List.getD, h]
theorem r_key (n : Nat) (sp : Bool) (a b : List Nat) (P : List (Option Nat × Option Nat)) (hla : a.length ≤ 5) (hlb : b.length ≤ 5) (hP : ∀ p ∈ P, okP a b p) (hl : P.length ≤ 100) :
    ct (n + 5) 710 [col sp a, col sp b, .list (P.map pT)] = some (col sp (P.map (figP a b))) := by
  refine ct_of f_key_column.fe (n + 4) (by kernel_rfl) rfl rfl rfl ?_
  have hj := r_joined n sp a b hla hlb
  generalize hA : col sp a = A at hj
  generalize hB : col sp b = B at hj
  generalize hL : T.list (P.map pT) = L
  refine st_asg (t := col sp (a ++ b)) (ev_call (ts := [.list [A, B]]) (evL_cons (ev_list rfl (show 2 ≤ lim by decide)) evL_nil) hj) ?_
  refine st_asg (t := .int a.length) (ev_bcall (ts := [.list (a.map (kv sp))]) (by rw [← hA]; rfl) (by rw [len_list _ (by rw [List.length_map]; omega), List.length_map])) (st_asgF (l := []) rfl ?_)
  obtain ⟨σ1, h1, u, v, h2⟩ := for_appL (step := fun σ t => match t with | .tup ts => (setAll σ [6, 7] ts).bind (exs (ct (n + 4)) [.app 5 (.ite (.cmp .Is (.var 6) .none) (.bin .Add (.var 4) (.var 7)) (.var 6))]) | _ => none)
    (R := fun acc σ => ∃ u v, σ = [.frz A, .frz B, .frz L, .frz (col sp (a ++ b)), .frz (.int a.length), .own acc, u, v]) (g := fun t => match t with | .tup [.int i, _] => [.int i] | .tup [.none, .int j] => [.int (a.length + j)] | _ => []) (items := P.map pT) (acc := [])
    (σ := [.frz A, .frz B, .frz L, .frz (col sp (a ++ b)), .frz (.int a.length), .own [], .undef, .undef]) ⟨_, _, rfl⟩ (fun acc σ t ht hla' ⟨u, v, hσ⟩ => by
      subst hσ
      refine xa_1_2 (List.mem_map.mp ht) fun p hp rq0 => ?_
      subst rq0
      match p, hP p hp with
      | (some i, q), _ =>
        exact ⟨_, st_app (t := .int (i : Nat)) rfl (ev_ite (v := false) rfl rfl) (lt_lim (by change acc.length + 1 ≤ 999 at hla'; omega)) st_nil, _, _, rfl⟩
      | (none, some j), _ =>
        exact ⟨_, st_app (t := .int (a.length + (j : Nat))) rfl (ev_ite (v := true) rfl rfl) (lt_lim (by change acc.length + 1 ≤ 999 at hla'; omega)) st_nil, _, _, rfl⟩) (by
      have := flat_le (l := P.map pT) (g := fun t => match t with | .tup [.int i, _] => [T.int i] | .tup [.none, .int j] => [.int (a.length + j)] | _ => []) (B := 1) fun x hx => by
        refine xa_1_2 (List.mem_map.mp hx) fun p hp rq0 => ?_
        subst rq0
        match p, hP p hp with
        | (some i, q), _ => exact Nat.le_refl _
        | (none, some j), _ => exact Nat.le_refl _
      rw [List.length_map] at this
      simp only [List.length_nil]; omega)
  have e : [] ++ (P.map pT).flatMap (fun t => match t with | .tup [.int i, _] => [T.int i] | .tup [.none, .int j] => [.int (a.length + j)] | _ => []) = (P.map fun p => some (plc a p)).map oi := by
    rw [List.nil_append]
    clear h1 h2 hL hl
    induction P with
    | nil => rfl
    | cons p P ih =>
      rw [List.map_cons, List.flatMap_cons, List.map_cons, List.map_cons, ih fun q hq => hP q (.tail _ hq)]
      match p, hP p (.head _) with
      | (some i, q), _ => rfl
      | (none, some j), _ =>
        show T.int (a.length + (j : Nat)) :: _ = T.int ((a.length + j : Nat) : Int) :: _
        rw [Int.natCast_add]; rfl
  rw [e] at h2
  subst h2
  refine st_forU (u := L) rfl (by rw [← hL]; exact if_pos (by rw [List.length_map]; exact le_lim (by omega))) h1 (st_frz rfl rfl (st_ret ?_))
  have hpk := r_pick (n + 2) (kd sp) (r_lacking (n + 2) sp) ((a ++ b).map (kv sp)) (P.map fun p => some (plc a p)) (fun i hi => by
    refine xa_1_2 (List.mem_map.mp hi) fun p hp q => ?_
    (refine some_el q fun qq => ?_; subst qq; clear q)
    rw [List.length_map]; exact plc_lt (hP p hp)) (by rw [List.length_map, List.length_append]; omega) (by rw [List.length_map]; exact hl)
  refine ev_call (ts := [col sp (a ++ b), .list ((P.map fun p => some (plc a p)).map oi)]) rfl (hpk.trans ?_)
  congr 2
  show T.list _ = T.list _
  congr 1
  rw [List.map_map, List.map_map]
  refine List.map_congr_left fun p hp => ?_
  show ((a ++ b).map (kv sp)).getD (plc a p) .none = kv sp (figP a b p)
  rw [← plc_fig (hP p hp)]
  exact getD_map_lt _ _ _ _ _ (plc_lt (hP p hp))
theorem r_sort_key (n : Nat) (sp : Bool) (l : List Nat) : ct (n + 2) 724 [col sp l] = some (col sp l) := by kernel_rfl
theorem r_merge_order (n : Nat) (sp x : Bool) (l : List Nat) : ct (n + 4) 729 [.list [col sp l], .bool x] = some (.list [col sp l]) := by
  refine ct_of f_merge_order.fe (n + 3) (by kernel_rfl) rfl rfl rfl ?_
  have hf := r_is_factor n sp l
  have hs := r_sort_key (n + 1) sp l
  generalize col sp l = C at hf hs
  refine st_ite (v := true) (r := .ret (.list [C])) ?_ (st_ret (ev_comp (u := .list [C]) rfl rfl ?_)) rfl
  · cases x with
    | true => rfl
    | false =>
      show (do pure (T.bool (← evB (ct (n + 3)) [.frz (.list [C]), .frz (.bool false), .undef, .undef, .undef, .undef] .Or [.var 1, .bop .And [(.cmp .Eq (.bcall .len [(.var 0)]) (.int 1)), (.not (.call "is_factor" 603 [(.idx (.var 0) (.int 0))]))]]))) = _
      have h1 : ev (ct (n + 3)) false [.frz (.list [C]), .frz (.bool false), .undef, .undef, .undef, .undef] (.call "is_factor" 603 [(.idx (.var 0) (.int 0))]) = some (.bool false) := ev_call (ts := [C]) rfl hf
      have h2 : ev (ct (n + 3)) false [.frz (.list [C]), .frz (.bool false), .undef, .undef, .undef, .undef] (.not (.call "is_factor" 603 [(.idx (.var 0) (.int 0))])) = some (.bool true) := by
        show (do pure (T.bool (!(← asB (← ev (ct (n + 3)) false [.frz (.list [C]), .frz (.bool false), .undef, .undef, .undef, .undef] (.call "is_factor" 603 [(.idx (.var 0) (.int 0))]))))) ) = _
        rw [h1]; rfl
      have h3 : ev (ct (n + 3)) false [.frz (.list [C]), .frz (.bool false), .undef, .undef, .undef, .undef] (.bop .And [(.cmp .Eq (.bcall .len [(.var 0)]) (.int 1)), (.not (.call "is_factor" 603 [(.idx (.var 0) (.int 0))]))]) = some (.bool true) := by
        show (do pure (T.bool (← (do asB (← ev (ct (n + 3)) false [.frz (.list [C]), .frz (.bool false), .undef, .undef, .undef, .undef] (.not (.call "is_factor" 603 [(.idx (.var 0) (.int 0))])))))) ) = _
        rw [h2]; rfl
      show (do pure (T.bool (← (do asB (← ev (ct (n + 3)) false [.frz (.list [C]), .frz (.bool false), .undef, .undef, .undef, .undef] (.bop .And [(.cmp .Eq (.bcall .len [(.var 0)]) (.int 1)), (.not (.call "is_factor" 603 [(.idx (.var 0) (.int 0))]))])))))) = _
      rw [h3]; rfl
  · exact comp_map (g := fun t => t) (items := [C]) fun t ht => ⟨rfl, by
      obtain rfl := List.mem_singleton.mp ht
      exact ev_call (ts := [t]) rfl hs⟩
end Mine
end
section
open PySem PySem.W PySem.Spec PySem.SeqAt
set_option tactic.hygienic false
namespace Mine
noncomputable def cmpR (sp : Bool) (f g : Nat) : Int := if rank sp f < rank sp g then -1 else if rank sp g < rank sp f then 1 else 0
theorem five {f : Nat} (h : f < 5) : f = 0 ∨ f = 1 ∨ f = 2 ∨ f = 3 ∨ f = 4 := by omega
theorem cmp_tail (n : Nat) (sp : Bool) (l : List Nat) (i j : Nat) (f g : Nat) (hf : f < 5) (hg : g < 5) :
    exs (ct (n + 1)) (f_compare_places.ms.drop 2) [.frz (col sp l), .frz (.int (i : Nat)), .frz (.int (j : Nat)), .frz (.bool false), .frz (.bool true), .frz (kv sp f), .frz (kv sp g), .undef, .undef, .undef] = some (.ret (.int (cmpR sp f g))) := by
  rcases five hf with rfl | rfl | rfl | rfl | rfl <;> rcases five hg with rfl | rfl | rfl | rfl | rfl <;> cases sp <;> kernel_rfl
theorem r_cmp_places (n : Nat) (sp : Bool) (l : List Nat) (hs : small l) (hl : l.length ≤ 100) (i j : Nat) (hi : i < l.length) (hj : j < l.length) :
    ct (n + 2) 557 [col sp l, .int (i : Nat), .int (j : Nat), .bool false, .bool true] = some (.int (cmpR sp l[i] l[j])) := by
  refine ct_of f_compare_places.fe (n + 1) (by kernel_rfl) rfl rfl rfl ?_
  refine st_asg (t := kv sp l[i]) (ev_idx (o := .list (l.map (kv sp))) (u := .int (i : Nat)) (ev_attr (o := col sp l) rfl rfl) rfl (idx_map l (kv sp) i hi (by omega))) ?_
  refine st_asg (t := kv sp l[j]) (ev_idx (o := .list (l.map (kv sp))) (u := .int (j : Nat)) (ev_attr (o := col sp l) rfl rfl) rfl (idx_map l (kv sp) j hj (by omega))) ?_
  exact cmp_tail n sp l i j l[i] l[j] (hs _ (by simp)) (hs _ (by simp))
theorem run_ret {step : List LV → T → Option Out} {σ : List LV} {t : T} {ts : List T} {r : T} (h : step σ t = some (.ret r)) : runFor step (t :: ts) σ = some (.ret r) := by
  unfold runFor
  rw [h]
theorem r_cmp_keys (n : Nat) (sp : Bool) (l : List Nat) (hs : small l) (hl : l.length ≤ 100) (i j : Nat) (hi : i < l.length) (hj : j < l.length) :
    ct (n + 3) 564 [.list [col sp l], .int (i : Nat), .int (j : Nat), .list [.bool false], .bool true] = some (.int (cmpR sp l[i] l[j])) := by
  refine ct_of f_compare_keys.fe (n + 2) (by kernel_rfl) rfl rfl rfl ?_
  have h := r_cmp_places n sp l hs hl i j hi hj
  generalize cmpR sp l[i] l[j] = r at h
  generalize col sp l = C at h
  have hb : ∀ (u v : LV), exs (ct (n + 2)) [.asg 6 (.call "compare_places" 557 [(.idx (.var 0) (.var 5)), (.var 1), (.var 2), (.idx (.var 3) (.var 5)), (.var 4)]), .ite (.cmp .NotEq (.var 6) (.int 0)) [.ret (.var 6)] []]
      [.frz (.list [C]), .frz (.int (i : Nat)), .frz (.int (j : Nat)), .frz (.list [.bool false]), .frz (.bool true), .frz (.int 0), u] = if r = 0 then some (.nxt [.frz (.list [C]), .frz (.int (i : Nat)), .frz (.int (j : Nat)), .frz (.list [.bool false]), .frz (.bool true), .frz (.int 0), .frz (.int r)]) else some (.ret (.int r)) := by
    intro u v
    by_cases hr : r = 0
    · rw [if_pos hr]
      refine st_asg (t := .int r) (ev_call (ts := [C, .int (i : Nat), .int (j : Nat), .bool false, .bool true]) rfl h) (st_ite (v := false) (r := .nxt _) (ev_cmp (x := .int r) (y := .int 0) rfl rfl (by show some (!(r == 0)) = _; rw [hr]; rfl)) st_nil st_nil)
    · rw [if_neg hr]
      refine st_asg (t := .int r) (ev_call (ts := [C, .int (i : Nat), .int (j : Nat), .bool false, .bool true]) rfl h) (st_ite (v := true) (r := .ret (.int r)) (ev_cmp (x := .int r) (y := .int 0) rfl rfl (by show some (!(r == 0)) = _; rw [beq_eq_false_iff_ne.mpr hr]; rfl)) (st_ret rfl) rfl)
  by_cases hr : r = 0
  · refine st_for (u := .rng 0 1 1) (items := [.int 0]) (r := .nxt [.frz (.list [C]), .frz (.int (i : Nat)), .frz (.int (j : Nat)), .frz (.list [.bool false]), .frz (.bool true), .frz (.int 0), .frz (.int r)]) rfl (by kernel_rfl) ?_ (by rw [hr]; exact st_ret rfl)
    refine run_cons ?_ rfl
    have := hb .undef .undef
    rw [if_pos hr] at this
    exact this
  · refine st_for (u := .rng 0 1 1) (items := [.int 0]) (r := .ret (.int r)) rfl (by kernel_rfl) ?_ rfl
    have := hb .undef .undef
    rw [if_neg hr] at this
    exact run_ret this
noncomputable def mrg (key : Nat → Nat) : List Nat → List Nat → List Nat
  | [], ys => ys
  | xs, [] => xs
  | x :: xs, y :: ys => if key x ≤ key y then x :: mrg key xs (y :: ys) else y :: mrg key (x :: xs) ys
theorem mrg_nil (key : Nat → Nat) (xs : List Nat) : mrg key xs [] = xs := by cases xs <;> simp [mrg]
theorem nil_mrg (key : Nat → Nat) (ys : List Nat) : mrg key [] ys = ys := by simp [mrg]
theorem mrg_cons (key : Nat → Nat) (x y : Nat) (xs ys : List Nat) : mrg key (x :: xs) (y :: ys) = if key x ≤ key y then x :: mrg key xs (y :: ys) else y :: mrg key (x :: xs) ys := by rw [mrg]
theorem mrg_perm (key : Nat → Nat) : ∀ xs ys, (mrg key xs ys).Perm (xs ++ ys)
  | [], ys => by rw [nil_mrg]; exact .refl _
  | x :: xs, [] => by rw [mrg_nil, List.append_nil]
  | x :: xs, y :: ys => by
    rw [mrg_cons]
    split
    · exact (mrg_perm key xs (y :: ys)).cons x
    · exact ((mrg_perm key (x :: xs) ys).cons y).trans (List.perm_middle).symm
theorem mrg_sorted (key : Nat → Nat) : ∀ xs ys, xs.Pairwise (fun a b => key a ≤ key b) → ys.Pairwise (fun a b => key a ≤ key b) → (mrg key xs ys).Pairwise fun a b => key a ≤ key b
  | [], ys, _, h => by rw [nil_mrg]; exact h
  | x :: xs, [], h, _ => by rw [mrg_nil]; exact h
  | x :: xs, y :: ys, h1, h2 => by
    have a1 := List.pairwise_cons.mp h1
    have a2 := List.pairwise_cons.mp h2
    rw [mrg_cons]
    split
    · rename_i hxy
      refine List.pairwise_cons.mpr ⟨fun z hz => ?_, mrg_sorted key xs (y :: ys) a1.2 h2⟩
      rcases List.mem_append.mp ((mrg_perm key xs (y :: ys)).mem_iff.mp hz) with h | h
      · exact a1.1 z h
      · rcases List.mem_cons.mp h with rfl | h
        · exact hxy
        · exact Nat.le_trans hxy (a2.1 z h)
    · rename_i hxy
      have hyx : key y ≤ key x := by omega
      refine List.pairwise_cons.mpr ⟨fun z hz => ?_, mrg_sorted key (x :: xs) ys h1 a2.2⟩
      rcases List.mem_append.mp ((mrg_perm key (x :: xs) ys).mem_iff.mp hz) with h | h
      · rcases List.mem_cons.mp h with rfl | h
        · exact hyx
        · exact Nat.le_trans hyx (a1.1 z h)
      · exact a2.1 z h
end Mine
end
section
open PySem PySem.W PySem.Spec PySem.SeqAt
set_option tactic.hygienic false
namespace Mine
theorem whl_run {test : List LV → Option Bool} {body : List LV → Option Out} {M : Nat → List LV → Prop} {Fin : List LV → Prop} (h : ∀ k σ, M k σ → (test σ = some false ∧ Fin σ) ∨ (test σ = some true ∧ ∃ σ' k', k' < k ∧ body σ = some (.nxt σ') ∧ M k' σ')) :
    ∀ (fuel k : Nat) (σ : List LV), k < fuel → M k σ → ∃ σ', runWhl test body fuel σ = some (.nxt σ') ∧ Fin σ'
  | 0, _, _, hk, _ => absurd hk (Nat.not_lt_zero _)
  | fuel + 1, k, σ, hk, hm => by
    rcases h k σ hm with ⟨h1, h2⟩ | ⟨h1, σ1, k1, h2, h3, h4⟩
    · exact ⟨σ, by unfold runWhl; rw [h1], h2⟩
    · obtain ⟨σ', g1, g2⟩ := whl_run h fuel k1 σ1 (by omega) h4
      exact ⟨σ', by unfold runWhl; rw [h1]; dsimp only; rw [h3]; exact g1, g2⟩
section
variable {c : Addr → List T → Option T} {σ : List LV} {ms : List MS} {o : Out}
theorem st_whl {k t b r} (h : runWhl (fun σ => do asB (← ev c false σ t)) (exs c b) k σ = some r) (hk : (match (some r : Option Out) with | some (.nxt σ') => exs c ms σ' | r => r) = some o) : exs c (.whl k t b :: ms) σ = some o := by
  show (match runWhl (fun σ => do asB (← ev c false σ t)) (exs c b) k σ with | some (.nxt σ') => exs c ms σ' | r => r) = _
  rw [h]; exact hk
theorem st_aug {i e a b} (h0 : σ[i]? = some (.frz (.int a))) (h : ev c false σ e = some (.int b)) (k : exs c ms (σ.set i (.frz (.int (a + b)))) = some o) : exs c (.aug i e :: ms) σ = some o := by
  show (match (match σ[i]?, ev c false σ e with | some (.frz (.int a)), some (.int b) => some (Out.nxt (σ.set i (.frz (.int (a + b))))) | _, _ => none) with | some (.nxt σ') => exs c ms σ' | r => r) = _
  rw [h0, h]; exact k
theorem ev_and {r a b x y} (h1 : ev c false σ a = some (.bool x)) (h2 : ev c false σ b = some (.bool y)) : ev c r σ (.bop .And [a, b]) = some (.bool (x && y)) := by
  show (do pure (T.bool (← (do match BoolOp.And, ← asB (← ev c false σ a) with | .And, false => pure false | .Or, true => pure true | _, _ => (do asB (← ev c false σ b)))))) = _
  rw [h1]
  cases x with
  | false => rfl
  | true =>
    show (do pure (T.bool (← (do asB (← ev c false σ b))))) = _
    rw [h2]; rfl
end
theorem slc_drop (l : List T) (i : Nat) (hi : i ≤ l.length) (hl : l.length ≤ lim) : tslc (.list l) (some (i : Nat)) none = some (.list (l.drop i)) := by
  show (if l.length ≤ lim then some (T.list (tslice l (some (i : Int)) none)) else none) = _
  rw [if_pos hl]
  have hc : clipT (some (i : Int)) l.length 0 = i := by
    unfold clipT
    dsimp only
    rw [if_neg (by omega)]
    show min i l.length = i
    omega
  have hn : clipT none l.length l.length = l.length := rfl
  unfold tslice
  rw [hc, hn, List.take_of_length_le (by rw [List.length_drop]; exact Nat.le_refl _)]
theorem cmpR_le (sp : Bool) (f g : Nat) : decide (cmpR sp f g ≤ 0) = decide (rank sp f ≤ rank sp g) := by
  unfold cmpR
  by_cases h1 : rank sp f < rank sp g
  · rw [if_pos h1, decide_eq_true (by decide), decide_eq_true (by omega)]
  · rw [if_neg h1]
    by_cases h2 : rank sp g < rank sp f
    · rw [if_pos h2, decide_eq_false (by decide), decide_eq_false (by omega)]
    · rw [if_neg h2, decide_eq_true (by decide), decide_eq_true (by omega)]
noncomputable abbrev iT (i : Nat) : T := .int (i : Nat)
theorem r_merge_runs (n : Nat) (sp : Bool) (l : List Nat) (hs : small l) (hl : l.length ≤ 100) (X Y : List Nat) (hX : ∀ i ∈ X, i < l.length) (hY : ∀ i ∈ Y, i < l.length) (hlen : X.length + Y.length ≤ 60) :
    ct (n + 4) 571 [.list (X.map iT), .list (Y.map iT), .list [col sp l], .list [.bool false], .bool true] = some (.list ((mrg (fun i => rank sp (l.getD i 4)) X Y).map iT)) := by
  refine ct_of f_merge_runs.fe (n + 3) (by kernel_rfl) rfl rfl rfl ?_
  have hk := r_cmp_keys n sp l hs hl
  generalize hC : col sp l = C at hk
  generalize hA : T.list (X.map iT) = A
  generalize hB : T.list (Y.map iT) = B
  have lenA : tcall .len [A] = some (.int X.length) := by rw [← hA, len_list _ (by rw [List.length_map]; omega), List.length_map]
  have lenB : tcall .len [B] = some (.int Y.length) := by rw [← hB, len_list _ (by rw [List.length_map]; omega), List.length_map]
  refine st_asgF (l := []) rfl (st_asg (t := .int 0) rfl (st_asg (t := .int 0) rfl ?_))
  obtain ⟨σ', h1, i, j, done, rfl, hi, hj, hd, hm, hfin⟩ := whl_run (test := fun σ => do asB (← ev (ct (n + 3)) false σ (.bop .And [(.cmp .Lt (.var 6) (.bcall .len [(.var 0)])), (.cmp .Lt (.var 7) (.bcall .len [(.var 1)]))])))
    (body := exs (ct (n + 3)) [.ite (.cmp .LtE (.call "compare_keys" 564 [(.var 2), (.idx (.var 0) (.var 6)), (.idx (.var 1) (.var 7)), (.var 3), (.var 4)]) (.int 0)) [.app 5 (.idx (.var 0) (.var 6)), .aug 6 (.int 1)] [.app 5 (.idx (.var 1) (.var 7)), .aug 7 (.int 1)]])
    (M := fun k σ => ∃ i j done, σ = [.frz A, .frz B, .frz (.list [C]), .frz (.list [.bool false]), .frz (.bool true), .own (done.map iT), .frz (iT i), .frz (iT j)] ∧ i ≤ X.length ∧ j ≤ Y.length ∧ done.length = i + j ∧
      mrg (fun i => rank sp (l.getD i 4)) X Y = done ++ mrg (fun i => rank sp (l.getD i 4)) (X.drop i) (Y.drop j) ∧ k = (X.length - i) + (Y.length - j))
    (Fin := fun σ => ∃ i j done, σ = [.frz A, .frz B, .frz (.list [C]), .frz (.list [.bool false]), .frz (.bool true), .own (done.map iT), .frz (iT i), .frz (iT j)] ∧ i ≤ X.length ∧ j ≤ Y.length ∧ done.length = i + j ∧
      mrg (fun i => rank sp (l.getD i 4)) X Y = done ++ mrg (fun i => rank sp (l.getD i 4)) (X.drop i) (Y.drop j) ∧ (i = X.length ∨ j = Y.length))
    (fun k σ ⟨i, j, done, hσ, hi, hj, hd, hm, hk'⟩ => by
      subst hσ
      have t1 : ∀ σ' : List LV, σ' = [.frz A, .frz B, .frz (.list [C]), .frz (.list [.bool false]), .frz (.bool true), .own (done.map iT), .frz (iT i), .frz (iT j)] →
          (do asB (← ev (ct (n + 3)) false σ' (.bop .And [(.cmp .Lt (.var 6) (.bcall .len [(.var 0)])), (.cmp .Lt (.var 7) (.bcall .len [(.var 1)]))]))) = some (decide ((i : Int) < X.length) && decide ((j : Int) < Y.length)) := fun σ' hσ' => by
        subst hσ'
        rw [ev_and (x := decide ((i : Int) < X.length)) (y := decide ((j : Int) < Y.length)) (ev_cmp (x := iT i) (y := .int X.length) rfl (ev_bcall (ts := [A]) rfl lenA) rfl) (ev_cmp (x := iT j) (y := .int Y.length) rfl (ev_bcall (ts := [B]) rfl lenB) rfl)]
        rfl
      by_cases hin : i < X.length ∧ j < Y.length
      · right
        refine ⟨(t1 _ rfl).trans (by rw [decide_eq_true (by omega), decide_eq_true (by omega)]; rfl), ?_⟩
        obtain ⟨hi', hj'⟩ := hin
        have hx := hX X[i] (by simp)
        have hy := hY Y[j] (by simp)
        have ix : tidx A (iT i) = some (iT X[i]) := by rw [← hA]; exact idx_map X iT i hi' (by omega)
        have iy : tidx B (iT j) = some (iT Y[j]) := by rw [← hB]; exact idx_map Y iT j hj' (by omega)
        have hcmp : ev (ct (n + 3)) false [.frz A, .frz B, .frz (.list [C]), .frz (.list [.bool false]), .frz (.bool true), .own (done.map iT), .frz (iT i), .frz (iT j)] (.cmp .LtE (.call "compare_keys" 564 [(.var 2), (.idx (.var 0) (.var 6)), (.idx (.var 1) (.var 7)), (.var 3), (.var 4)]) (.int 0)) = some (.bool (decide (rank sp (l.getD X[i] 4) ≤ rank sp (l.getD Y[j] 4)))) := by
          have e1 : l.getD X[i] 4 = l[X[i]] := by simp [List.getD, hx]
          have e2 : l.getD Y[j] 4 = l[Y[j]] := by simp [List.getD, hy]
          rw [e1, e2, ← cmpR_le]
          exact ev_cmp (x := .int (cmpR sp l[X[i]] l[Y[j]])) (y := .int 0) (ev_call (ts := [.list [C], iT X[i], iT Y[j], .list [.bool false], .bool true]) (evL_cons rfl (evL_cons (ev_idx (o := A) (u := iT i) rfl rfl ix) (evL_cons (ev_idx (o := B) (u := iT j) rfl rfl iy) rfl))) (hk _ _ hx hy)) rfl rfl
        have dX : X.drop i = X[i] :: X.drop (i + 1) := by simp
        have dY : Y.drop j = Y[j] :: Y.drop (j + 1) := by simp
        by_cases hle : rank sp (l.getD X[i] 4) ≤ rank sp (l.getD Y[j] 4)
        · refine ⟨_, (X.length - (i + 1)) + (Y.length - j), by omega, st_ite (v := true) (r := .nxt _) (hcmp.trans (by rw [decide_eq_true hle])) (st_app (t := iT X[i]) rfl (ev_idx (o := A) (u := iT i) rfl rfl ix) (lt_lim (by rw [List.length_map]; omega)) (st_aug (a := (i : Nat)) (b := 1) rfl rfl st_nil)) st_nil, i + 1, j, done ++ [X[i]], ?_, by omega, hj, by rw [List.length_append, hd]; show i + j + 1 = _; omega, ?_, rfl⟩
          · show [LV.frz A, .frz B, .frz (.list [C]), .frz (.list [.bool false]), .frz (.bool true), .own (done.map iT ++ [iT X[i]]), .frz (.int ((i : Int) + 1)), .frz (iT j)] = _
            rw [List.map_append]; rfl
          · rw [hm, dX, dY, mrg_cons, if_pos hle, List.append_assoc]; rfl
        · refine ⟨_, (X.length - i) + (Y.length - (j + 1)), by omega, st_ite (v := false) (r := .nxt _) (hcmp.trans (by rw [decide_eq_false hle])) (st_app (t := iT Y[j]) rfl (ev_idx (o := B) (u := iT j) rfl rfl iy) (lt_lim (by rw [List.length_map]; omega)) (st_aug (a := (j : Nat)) (b := 1) rfl rfl st_nil)) st_nil, i, j + 1, done ++ [Y[j]], ?_, hi, by omega, by rw [List.length_append, hd]; show i + j + 1 = _; omega, ?_, rfl⟩
          · show [LV.frz A, .frz B, .frz (.list [C]), .frz (.list [.bool false]), .frz (.bool true), .own (done.map iT ++ [iT Y[j]]), .frz (iT i), .frz (.int ((j : Int) + 1))] = _
            rw [List.map_append]; rfl
          · rw [hm, dX, dY, mrg_cons, if_neg hle, List.append_assoc]; rfl
      · left
        refine ⟨(t1 _ rfl).trans ?_, i, j, done, rfl, hi, hj, hd, hm, by omega⟩
        congr 1
        rw [Bool.and_eq_false_iff, decide_eq_false_iff_not, decide_eq_false_iff_not]
        omega) 64 (X.length + Y.length) _ (by omega) ⟨0, 0, [], rfl, Nat.zero_le _, Nat.zero_le _, rfl, rfl, by omega⟩
  refine st_whl h1 (st_frz rfl rfl (st_ret ?_))
  have sX : tslc A (some (i : Nat)) none = some (.list ((X.drop i).map iT)) := by rw [← hA, slc_drop _ i (by rw [List.length_map]; exact hi) (by rw [List.length_map]; exact le_lim (by omega)), List.map_drop]
  have sY : tslc B (some (j : Nat)) none = some (.list ((Y.drop j).map iT)) := by rw [← hB, slc_drop _ j (by rw [List.length_map]; exact hj) (by rw [List.length_map]; exact le_lim (by omega)), List.map_drop]
  have eX : ev (ct (n + 3)) true [.frz A, .frz B, .frz (.list [C]), .frz (.list [.bool false]), .frz (.bool true), .frz (.list (done.map iT)), .frz (iT i), .frz (iT j)] (.slc (.var 0) (some (.var 6)) none) = some (.list ((X.drop i).map iT)) := sX
  have eY : ev (ct (n + 3)) true [.frz A, .frz B, .frz (.list [C]), .frz (.list [.bool false]), .frz (.bool true), .frz (.list (done.map iT)), .frz (iT i), .frz (iT j)] (.slc (.var 1) (some (.var 7)) none) = some (.list ((Y.drop j).map iT)) := sY
  have big : ∀ (u v : List T), u.length + v.length ≤ 1000 → tbin .Add (.list u) (.list v) = some (.list (u ++ v)) := fun u v h => if_pos (le_lim h)
  refine (ev_bin (x := .list (done.map iT ++ (X.drop i).map iT)) (y := .list ((Y.drop j).map iT)) (ev_bin (x := .list (done.map iT)) (y := .list ((X.drop i).map iT)) rfl eX (big _ _ (by rw [List.length_map, List.length_map, List.length_drop]; omega))) eY (big _ _ (by rw [List.length_append, List.length_map, List.length_map, List.length_map, List.length_drop, List.length_drop]; omega))).trans ?_
  congr 2
  rw [hm, List.map_append, List.append_assoc]
  congr 1
  rcases hfin with rfl | rfl
  · rw [List.drop_length, nil_mrg]; rfl
  · rw [List.drop_length, mrg_nil]; simp
end Mine
end
section
open PySem PySem.W PySem.Spec PySem.SeqAt
set_option tactic.hygienic false
namespace Mine
noncomputable def pass (key : Nat → Nat) : List (List Nat) → List (List Nat)
  | x :: y :: r => mrg key x y :: pass key r
  | r => r
theorem pass_eq (key : Nat → Nat) : ∀ Rs : List (List Nat), (List.range (Rs.length / 2)).map (fun k => mrg key (Rs.getD (2 * k) []) (Rs.getD (2 * k + 1) [])) ++ (if Rs.length % 2 = 1 then [Rs.getD (Rs.length - 1) []] else []) = pass key Rs
  | [] => rfl
  | [x] => by simp [pass]
  | x :: y :: r => by
    have ih := pass_eq key r
    have h1 : (x :: y :: r).length / 2 = r.length / 2 + 1 := by simp only [List.length_cons]; omega
    have h2 : (x :: y :: r).length % 2 = r.length % 2 := by simp only [List.length_cons]; omega
    rw [h1, List.range_succ_eq_map, List.map_cons, List.map_map, List.cons_append]
    show mrg key x y :: _ = mrg key x y :: pass key r
    congr 1
    rw [← ih, h2]
    congr 1
    by_cases h : r.length % 2 = 1
    · rw [if_pos h, if_pos h]
      have : (x :: y :: r).length - 1 = (r.length - 1) + 2 := by simp only [List.length_cons]; omega
      rw [this]; rfl
    · rw [if_neg h, if_neg h]
theorem pass_len (key : Nat → Nat) : ∀ Rs : List (List Nat), (pass key Rs).length = (Rs.length + 1) / 2
  | [] => rfl
  | [x] => by simp [pass]
  | x :: y :: r => by
    show (pass key r).length + 1 = _
    rw [pass_len key r]; simp only [List.length_cons]; omega
theorem pass_perm (key : Nat → Nat) : ∀ Rs : List (List Nat), (pass key Rs).flatten.Perm Rs.flatten
  | [] => .refl _
  | [x] => by simp [pass]
  | x :: y :: r => by
    show (mrg key x y ++ (pass key r).flatten).Perm (x ++ (y ++ r.flatten))
    rw [← List.append_assoc]
    exact (mrg_perm key x y).append (pass_perm key r)
theorem pass_sorted (key : Nat → Nat) : ∀ Rs : List (List Nat), (∀ r ∈ Rs, r.Pairwise fun a b => key a ≤ key b) → ∀ r ∈ pass key Rs, r.Pairwise fun a b => key a ≤ key b
  | [], h => h
  | [x], h => by simpa [pass] using h
  | x :: y :: r, h => fun z hz => by
    rcases List.mem_cons.mp hz with rfl | hz
    · exact mrg_sorted key x y (h x (.head _)) (h y (.tail _ (.head _)))
    · exact pass_sorted key r (fun w hw => h w (.tail _ (.tail _ hw))) z hz
theorem range2_T (m : Nat) (h2 : 2 ≤ m) (h : m ≤ 1000) : tcall .range [.int 0, .int ((m : Int) - 1), .int 2] = some (.rng 0 ((m : Int) - 1) 2) ∧ iterT (.rng 0 ((m : Int) - 1) 2) = some ((List.range (m / 2)).map fun k => iT (2 * k)) := by
  have hm : midI ((m : Int) - 1) = true := decide_eq_true (by omega)
  have h0 : midI 0 = true := decide_eq_true (by decide)
  have hn : rngN 0 ((m : Int) - 1) 2 = m / 2 := by
    unfold rngN
    rw [if_pos (by omega)]; omega
  refine ⟨by show (if midI 0 && midI ((m : Int) - 1) && (decide ((0 : Int) < 2) && decide ((2 : Int) < 1000)) then some (T.rng 0 ((m : Int) - 1) 2) else none) = _; rw [h0, hm]; rfl, ?_⟩
  show (if midI 0 && midI ((m : Int) - 1) && (decide ((0 : Int) < 2) && decide ((2 : Int) < 1000)) && decide (rngN 0 ((m : Int) - 1) 2 ≤ lim) then some ((rngL 0 ((m : Int) - 1) 2).map T.int) else none) = _
  rw [if_pos (by rw [h0, hm, hn, decide_eq_true (le_lim (by omega))]; rfl)]
  unfold rngL
  rw [hn, List.map_map]
  congr 1
  refine List.map_congr_left fun i _ => ?_
  show T.int (0 + (i : Nat) * 2) = T.int ((2 * i : Nat) : Int)
  congr 1; omega
noncomputable abbrev RT (Rs : List (List Nat)) : List T := Rs.map fun r => T.list (r.map iT)
theorem idx_RT (Rs : List (List Nat)) (i : Nat) (hi : i < Rs.length) (hl : Rs.length ≤ 1000) : tidx (.list (RT Rs)) (iT i) = some (.list ((Rs.getD i []).map iT)) := by
  rw [show tidx (.list (RT Rs)) (iT i) = some ((RT Rs)[i]'(by rw [List.length_map]; exact hi)) from idx_list _ i (by rw [List.length_map]; exact hi) (by rw [List.length_map]; exact hl)]
  simp [List.getD, hi]
theorem idx_last (Rs : List (List Nat)) (hi : 0 < Rs.length) (hl : Rs.length ≤ 1000) : tidx (.list (RT Rs)) (.int (-1)) = some (.list ((Rs.getD (Rs.length - 1) []).map iT)) := by
  show seqT (RT Rs) (-1) = _
  unfold seqT
  rw [if_pos (by decide), if_neg (by decide), if_pos (by rw [List.length_map]; omega)]
  have : ((-1 : Int) + (RT Rs).length).toNat = Rs.length - 1 := by rw [List.length_map]; omega
  rw [this]
  have hlt : Rs.length - 1 < Rs.length := by omega
  simp [List.getD, hlt]
theorem one_le {Rs : List (List Nat)} : ∀ {i : Nat}, i < Rs.length → (Rs.getD i []).length ≤ Rs.flatten.length := by
  induction Rs with
  | nil => intro i h; cases h
  | cons r Rs ih =>
    intro i h
    rw [List.flatten_cons, List.length_append]
    cases i with
    | zero => exact Nat.le_add_right _ _
    | succ i => exact Nat.le_trans (ih (by simpa using h)) (Nat.le_add_left _ _)
theorem two_le {Rs : List (List Nat)} : ∀ {i j : Nat}, i < j → j < Rs.length → (Rs.getD i []).length + (Rs.getD j []).length ≤ Rs.flatten.length := by
  induction Rs with
  | nil => intro i j _ h; cases h
  | cons r Rs ih =>
    intro i j hij h
    rw [List.flatten_cons, List.length_append]
    cases j with
    | zero => cases hij
    | succ j =>
      cases i with
      | zero => exact Nat.add_le_add_left (one_le (by simpa using h)) _
      | succ i => exact Nat.le_trans (ih (by omega) (by simpa using h)) (Nat.le_add_left _ _)
theorem flat_single : ∀ P : List Nat, (P.map fun i => [i]).flatten = P
  | [] => rfl
  | i :: P => by rw [List.map_cons, List.flatten_cons, flat_single P]; rfl
theorem r_merge_sort (n : Nat) (sp : Bool) (l : List Nat) (hs : small l) (hl : l.length ≤ 100) (P : List Nat) (hP : ∀ i ∈ P, i < l.length) (hlen : P.length ≤ 60) :
    ∃ R : List Nat, R.Perm P ∧ R.Pairwise (fun a b => rank sp (l.getD a 4) ≤ rank sp (l.getD b 4)) ∧ ct (n + 5) 576 [.list (P.map iT), .list [col sp l], .list [.bool false], .bool true] = some (.list (R.map iT)) := by
  have hmr := r_merge_runs n sp l hs hl
  generalize hC : col sp l = C at hmr ⊢
  have hcomp : ev (ct (n + 4)) false [.frz (.list (P.map iT)), .frz (.list [C]), .frz (.list [.bool false]), .frz (.bool true), .undef, .undef, .undef] (.comp (.list [(.var 7)]) (.var 0) none) = some (.list (RT (P.map fun i => [i]))) := by
    refine ev_comp (u := .list (P.map iT)) rfl (if_pos (by rw [List.length_map]; exact le_lim (by omega))) ?_
    have e : RT (P.map fun i => [i]) = P.map fun i => T.list [iT i] := by
      show (P.map fun i => [i]).map (fun r => T.list (r.map iT)) = _
      rw [List.map_map]; rfl
    rw [e]
    exact comp_mapN fun i hi => rfl
  by_cases hP0 : P = []
  · subst hP0
    refine ⟨[], .refl _, .nil, ct_of f_merge_sort.fe (n + 4) (by kernel_rfl) rfl rfl rfl ?_⟩
    exact st_asgF rfl (st_frz rfl rfl (st_ite (v := true) (r := .ret (.list [])) rfl (st_ret rfl) rfl))
  have hpos : 0 < P.length := by
    cases P with
    | nil => exact absurd rfl hP0
    | cons _ _ => exact Nat.succ_pos _
  obtain ⟨σ', h1, Rs, u, v, rfl, hp, hso, hone⟩ := whl_run (test := fun σ => do asB (← ev (ct (n + 4)) false σ (.cmp .Gt (.bcall .len [(.var 4)]) (.int 1))))
    (body := exs (ct (n + 4)) [.asgF 5 (.list []), .forI 6 (.bcall .range [(.int 0), (.bin .Sub (.bcall .len [(.var 4)]) (.int 1)), (.int 2)]) [.app 5 (.call "merge_runs" 571 [(.idx (.var 4) (.var 6)), (.idx (.var 4) (.bin .Add (.var 6) (.int 1))), (.var 1), (.var 2), (.var 3)])],
      .ite (.cmp .Eq (.bin .Mod (.bcall .len [(.var 4)]) (.int 2)) (.int 1)) [.app 5 (.idx (.var 4) (.neg (.int 1)))] [], .frz 5, .asg 4 (.var 5)])
    (M := fun k σ => ∃ Rs u v, σ = [.frz (.list (P.map iT)), .frz (.list [C]), .frz (.list [.bool false]), .frz (.bool true), .frz (.list (RT Rs)), u, v] ∧ Rs.flatten.Perm P ∧ (∀ r ∈ Rs, r.Pairwise fun a b => rank sp (l.getD a 4) ≤ rank sp (l.getD b 4)) ∧ 0 < Rs.length ∧ Rs.length ≤ 60 ∧ k = Rs.length)
    (Fin := fun σ => ∃ Rs u v, σ = [.frz (.list (P.map iT)), .frz (.list [C]), .frz (.list [.bool false]), .frz (.bool true), .frz (.list (RT Rs)), u, v] ∧ Rs.flatten.Perm P ∧ (∀ r ∈ Rs, r.Pairwise fun a b => rank sp (l.getD a 4) ≤ rank sp (l.getD b 4)) ∧ Rs.length = 1)
    (fun k σ ⟨Rs, u, v, hσ, hp, hso, hpos, h60, hk⟩ => by
      subst hσ
      have lenR : tcall .len [.list (RT Rs)] = some (.int Rs.length) := by rw [len_list _ (by rw [List.length_map]; omega), List.length_map]
      have t1 : ∀ σ' : List LV, σ' = [.frz (.list (P.map iT)), .frz (.list [C]), .frz (.list [.bool false]), .frz (.bool true), .frz (.list (RT Rs)), u, v] → (do asB (← ev (ct (n + 4)) false σ' (.cmp .Gt (.bcall .len [(.var 4)]) (.int 1)))) = some (decide ((1 : Int) < Rs.length)) := fun σ' hσ' => by
        subst hσ'
        rw [ev_cmp (x := .int Rs.length) (y := .int 1) (ev_bcall (ts := [.list (RT Rs)]) rfl lenR) rfl rfl]; rfl
      by_cases h1 : Rs.length = 1
      · left
        exact ⟨(t1 _ rfl).trans (by rw [decide_eq_false (by omega)]), Rs, u, v, rfl, hp, hso, h1⟩
      · right
        refine ⟨(t1 _ rfl).trans (by rw [decide_eq_true (by omega)]), ?_⟩
        obtain ⟨q1, q2⟩ := range2_T Rs.length (by omega) (by omega)
        have hin : ∀ i, i < Rs.length → ∀ x ∈ Rs.getD i [], x < l.length := fun i hi x hx => hP x (hp.mem_iff.mp (List.mem_flatten.mpr ⟨_, by
          have : Rs.getD i [] = Rs[i] := by simp [List.getD, hi]
          rw [this]; simp, hx⟩))
        have hsum : ∀ i j, i < j → j < Rs.length → (Rs.getD i []).length + (Rs.getD j []).length ≤ 60 := fun i j hij hj => by
          have := two_le hij hj
          rw [hp.length_eq] at this
          omega
        obtain ⟨σ1, g1, w, g2⟩ := for_appL (step := fun σ t => exs (ct (n + 4)) [.app 5 (.call "merge_runs" 571 [(.idx (.var 4) (.var 6)), (.idx (.var 4) (.bin .Add (.var 6) (.int 1))), (.var 1), (.var 2), (.var 3)])] (σ.set 6 (.frz t)))
          (R := fun acc σ => ∃ v, σ = [.frz (.list (P.map iT)), .frz (.list [C]), .frz (.list [.bool false]), .frz (.bool true), .frz (.list (RT Rs)), .own acc, v]) (g := fun t => match t with | .int k => [.list ((mrg (fun i => rank sp (l.getD i 4)) (Rs.getD k.toNat []) (Rs.getD (k.toNat + 1) [])).map iT)] | _ => [])
          (items := (List.range (Rs.length / 2)).map fun k => iT (2 * k)) (acc := []) (σ := [.frz (.list (P.map iT)), .frz (.list [C]), .frz (.list [.bool false]), .frz (.bool true), .frz (.list (RT Rs)), .own [], v]) ⟨_, rfl⟩ (fun acc σ t ht hla ⟨v, hσ⟩ => by
            subst hσ
            obtain ⟨k, hk', rfl⟩ := List.mem_map.mp ht
            have hk' := List.mem_range.mp hk'
            have e1 := idx_RT Rs (2 * k) (by omega) (by omega)
            have e2 : tidx (.list (RT Rs)) (.int (((2 * k : Nat) : Int) + 1)) = some (.list ((Rs.getD (2 * k + 1) []).map iT)) := idx_RT Rs (2 * k + 1) (by omega) (by omega)
            exact ⟨_, st_app (t := .list ((mrg (fun i => rank sp (l.getD i 4)) (Rs.getD (2 * k) []) (Rs.getD (2 * k + 1) [])).map iT)) rfl (ev_call (ts := [.list ((Rs.getD (2 * k) []).map iT), .list ((Rs.getD (2 * k + 1) []).map iT), .list [C], .list [.bool false], .bool true])
              (evL_cons (ev_idx (o := .list (RT Rs)) (u := iT (2 * k)) rfl rfl e1) (evL_cons (ev_idx (o := .list (RT Rs)) (u := .int (((2 * k : Nat) : Int) + 1)) rfl rfl e2) rfl)) (hmr _ _ (hin _ (by omega)) (hin _ (by omega)) (hsum _ _ (by omega) (by omega)))) (by change acc.length + 1 ≤ 999 at hla; exact lt_lim (by omega)) st_nil, _, rfl⟩)
          (by
            have := flat_le (l := (List.range (Rs.length / 2)).map fun k => iT (2 * k)) (g := fun t => match t with | .int k => [T.list ((mrg (fun i => rank sp (l.getD i 4)) (Rs.getD k.toNat []) (Rs.getD (k.toNat + 1) [])).map iT)] | _ => []) (B := 1) fun x hx => by split <;> simp
            rw [List.length_map, List.length_range] at this
            simp only [List.length_nil]; omega)
        subst g2
        have eacc : [] ++ ((List.range (Rs.length / 2)).map fun k => iT (2 * k)).flatMap (fun t => match t with | .int k => [T.list ((mrg (fun i => rank sp (l.getD i 4)) (Rs.getD k.toNat []) (Rs.getD (k.toNat + 1) [])).map iT)] | _ => []) = RT ((List.range (Rs.length / 2)).map fun k => mrg (fun i => rank sp (l.getD i 4)) (Rs.getD (2 * k) []) (Rs.getD (2 * k + 1) [])) := by
          rw [List.nil_append, List.flatMap_map]
          show _ = ((List.range (Rs.length / 2)).map fun k => mrg (fun i => rank sp (l.getD i 4)) (Rs.getD (2 * k) []) (Rs.getD (2 * k + 1) [])).map (fun r => T.list (r.map iT))
          rw [List.map_map]
          generalize List.range (Rs.length / 2) = ns
          induction ns with
          | nil => rfl
          | cons m ns ih => rw [List.flatMap_cons, List.map_cons, ih]; rfl
        rw [eacc] at g1
        have hpe := pass_eq (fun i => rank sp (l.getD i 4)) Rs
        have hpl := pass_len (fun i => rank sp (l.getD i 4)) Rs
        have hpp := pass_perm (fun i => rank sp (l.getD i 4)) Rs
        have hps := pass_sorted (fun i => rank sp (l.getD i 4)) Rs hso
        generalize hL0 : (List.range (Rs.length / 2)).map (fun k => mrg (fun i => rank sp (l.getD i 4)) (Rs.getD (2 * k) []) (Rs.getD (2 * k + 1) [])) = L0 at g1 hpe
        have hL0l : L0.length ≤ 60 := by rw [← hL0, List.length_map, List.length_range]; omega
        have hmod : tbin .Mod (.int Rs.length) (.int 2) = some (.int ((Rs.length : Int) % 2)) := rfl
        have hrange : ev (ct (n + 4)) false [.frz (.list (P.map iT)), .frz (.list [C]), .frz (.list [.bool false]), .frz (.bool true), .frz (.list (RT Rs)), .own [], v] (.bcall .range [(.int 0), (.bin .Sub (.bcall .len [(.var 4)]) (.int 1)), (.int 2)]) = some (.rng 0 ((Rs.length : Int) - 1) 2) :=
          ev_bcall (ts := [.int 0, .int ((Rs.length : Int) - 1), .int 2]) (evL_cons rfl (evL_cons (ev_bin (x := .int Rs.length) (y := .int 1) (ev_bcall (ts := [.list (RT Rs)]) rfl lenR) rfl rfl) rfl)) q1
        have htest : ev (ct (n + 4)) false [.frz (.list (P.map iT)), .frz (.list [C]), .frz (.list [.bool false]), .frz (.bool true), .frz (.list (RT Rs)), .own (RT L0), w] (.cmp .Eq (.bin .Mod (.bcall .len [(.var 4)]) (.int 2)) (.int 1)) = some (.bool ((Rs.length : Int) % 2 == 1)) :=
          ev_cmp (x := .int ((Rs.length : Int) % 2)) (y := .int 1) (ev_bin (x := .int Rs.length) (y := .int 2) (ev_bcall (ts := [.list (RT Rs)]) rfl lenR) rfl hmod) rfl rfl
        refine ⟨[.frz (.list (P.map iT)), .frz (.list [C]), .frz (.list [.bool false]), .frz (.bool true), .frz (.list (RT (pass (fun i => rank sp (l.getD i 4)) Rs))), .frz (.list (RT (pass (fun i => rank sp (l.getD i 4)) Rs))), w], (pass (fun i => rank sp (l.getD i 4)) Rs).length, by omega, ?_, pass (fun i => rank sp (l.getD i 4)) Rs, _, _, rfl, hpp.trans hp, hps, by omega, by omega, rfl⟩
        refine st_asgF (l := []) rfl (st_for hrange q2 g1 ?_)
        by_cases hodd : Rs.length % 2 = 1
        · rw [if_pos hodd] at hpe
          refine st_ite (v := true) (r := .nxt _) (htest.trans (by rw [show ((Rs.length : Int) % 2 == 1) = true from beq_iff_eq.mpr (by omega)])) (st_app (t := .list ((Rs.getD (Rs.length - 1) []).map iT)) rfl (ev_idx (o := .list (RT Rs)) (u := .int (-1)) rfl rfl (idx_last Rs hpos (by omega))) (lt_lim (by rw [List.length_map]; omega)) st_nil) ?_
          have e : RT L0 ++ [.list ((Rs.getD (Rs.length - 1) []).map iT)] = RT (pass (fun i => rank sp (l.getD i 4)) Rs) := by
            rw [← hpe]
            show _ = (L0 ++ [Rs.getD (Rs.length - 1) []]).map (fun r => T.list (r.map iT))
            rw [List.map_append]; rfl
          rw [← e]
          exact st_frz rfl rfl (st_asg rfl st_nil)
        · rw [if_neg hodd, List.append_nil] at hpe
          refine st_ite (v := false) (r := .nxt _) (htest.trans (by rw [show ((Rs.length : Int) % 2 == 1) = false from beq_eq_false_iff_ne.mpr (by omega)])) st_nil ?_
          rw [← hpe]
          exact st_frz rfl rfl (st_asg rfl st_nil)) 64 P.length _ (by omega) ⟨P.map fun i => [i], _, _, rfl, by
          rw [flat_single], fun r hr => by
          obtain ⟨i, _, rfl⟩ := List.mem_map.mp hr
          exact List.pairwise_singleton _ _, by rw [List.length_map]; exact hpos, by rw [List.length_map]; exact hlen, by rw [List.length_map]⟩
  obtain ⟨R, rfl⟩ := List.length_eq_one_iff.mp hone
  rw [List.flatten_cons, List.flatten_nil, List.append_nil] at hp
  refine ⟨R, hp, hso R (.head _), ct_of f_merge_sort.fe (n + 4) (by kernel_rfl) rfl rfl rfl ?_⟩
  refine st_asgF hcomp (st_frz rfl rfl (st_ite (v := false) (r := .nxt _) ?_ st_nil (st_whl h1 (st_ret rfl))))
  refine ev_cmp (x := .int P.length) (y := .int 0) (ev_bcall (ts := [.list (RT (P.map fun i => [i]))]) rfl (by rw [len_list _ (by rw [List.length_map, List.length_map]; omega), List.length_map, List.length_map])) rfl ?_
  show some (((P.length : Int) == 0)) = _
  rw [beq_eq_false_iff_ne.mpr (by omega)]
end Mine
end
section
open PySem PySem.W PySem.Spec PySem.SeqAt
set_option tactic.hygienic false
namespace Mine
theorem r_check (n : Nat) (sp : Bool) (l : List Nat) : ct (n + 1) 550 [col sp l] = some .none := by cases sp <;> kernel_rfl
theorem r_length (n : Nat) (sp : Bool) (l : List Nat) (hl : l.length ≤ 100) : ct (n + 1) 343 [col sp l] = some (.int l.length) := by
  refine ct_of f_length.fe n (by kernel_rfl) rfl rfl rfl ?_
  refine st_asg (t := kd sp) (by kernel_rfl) (st_ite (v := false) (r := .nxt _) (by cases sp <;> kernel_rfl) st_nil ?_)
  refine st_ite (v := true) (r := .ret (.int l.length)) (by cases sp <;> kernel_rfl) (st_ret (ev_bcall (ts := [.list (l.map (kv sp))]) (by kernel_rfl) ?_)) rfl
  rw [len_list _ (by rw [List.length_map]; omega), List.length_map]
theorem r_each (n : Nat) : ct (n + 1) 581 [.bool false, .int 1] = some (.list [.bool false]) := by kernel_rfl
theorem r_kept_places (n : Nat) (sp : Bool) (l : List Nat) (hl : l.length ≤ 100) : ct (n + 2) 588 [.list [col sp l], .bool true] = some (.list ((List.range l.length).map iT)) := by
  refine ct_of f_kept_places.fe (n + 1) (by kernel_rfl) rfl rfl rfl ?_
  have hlen := r_length n sp l hl
  generalize col sp l = C at hlen
  obtain ⟨q1, q2⟩ := range_T l.length (by omega)
  refine st_asgF (l := []) rfl ?_
  obtain ⟨σ1, g1, u, v, g2⟩ := for_appL (step := fun σ t => exs (ct (n + 1)) [.asg 4 (.bool true), .ite (.cmp .Is (.var 1) .none) [.forI 5 (.var 0) [.ite (.call "is_lacking" 536 [(.attr (.var 5) "kind"), (.idx (.attr (.var 5) "items") (.var 3))]) [.asg 4 (.bool false)] []]] [], .ite (.var 4) [.app 2 (.var 3)] []] (σ.set 3 (.frz t)))
    (R := fun acc σ => ∃ u v, σ = [.frz (.list [C]), .frz (.bool true), .own acc, u, v, .undef]) (g := fun t => [t]) (items := (List.range l.length).map iT) (acc := []) (σ := [.frz (.list [C]), .frz (.bool true), .own [], .undef, .undef, .undef]) ⟨_, _, rfl⟩ (fun acc σ t ht hla ⟨u, v, hσ⟩ => by
      subst hσ
      exact ⟨_, st_asg (t := .bool true) rfl (st_ite (v := false) (r := .nxt _) rfl st_nil (st_ite (v := true) (r := .nxt _) rfl (st_app (t := t) rfl rfl (lt_lim (by change acc.length + 1 ≤ 999 at hla; omega)) st_nil) st_nil)), _, _, rfl⟩)
    (by rw [flat2, List.length_map, List.length_map, List.length_range]; simp only [List.length_nil]; omega)
  rw [flat2, List.map_id', List.nil_append] at g2
  subst g2
  exact st_for (u := .rng 0 l.length 1) (ev_bcall (ts := [.int l.length]) (evL_cons (ev_call (ts := [C]) rfl hlen) rfl) q1) q2 g1 (st_frz rfl rfl (st_ret rfl))
theorem r_order_by (n : Nat) (sp : Bool) (l : List Nat) (hs : small l) (hl : l.length ≤ 60) :
    ∃ R : List Nat, R.Perm (List.range l.length) ∧ R.Pairwise (fun a b => rank sp (l.getD a 4) ≤ rank sp (l.getD b 4)) ∧ ct (n + 6) 596 [.list [col sp l]] = some (.list (R.map iT)) := by
  obtain ⟨R, h1, h2, h3⟩ := r_merge_sort n sp l hs (by omega) (List.range l.length) (fun i hi => List.mem_range.mp hi) (by rw [List.length_range]; exact hl)
  refine ⟨R, h1, h2, ct_ofD f_order_by.fe (n + 5) (as := [.list [col sp l], .bool false, .bool true]) (by kernel_rfl) rfl rfl rfl ?_⟩
  have hc := r_check (n + 4) sp l
  have hlen := r_length (n + 4) sp l (by omega)
  have hk := r_kept_places (n + 3) sp l (by omega)
  have he := r_each (n + 4)
  generalize col sp l = C at h3 hc hlen hk
  refine st_ite (v := false) (r := .nxt _) rfl st_nil ?_
  refine st_for (u := .list [C]) (r := .nxt [.frz (.list [C]), .frz (.bool false), .frz (.bool true), .frz C, .undef]) rfl rfl (run_cons ?_ rfl) ?_
  · refine st_exp (ev_call (ts := [C]) rfl hc) (st_ite (v := false) (r := .nxt _) (ev_cmp (x := .int l.length) (y := .int l.length) (ev_call (ts := [C]) rfl hlen) (ev_call (ts := [C]) rfl hlen) ?_) st_nil st_nil)
    show some (!((l.length : Int) == l.length)) = _
    rw [beq_self_eq_true]; rfl
  · exact st_asg (t := .list [.bool false]) (ev_call (ts := [.bool false, .int 1]) rfl he) (st_ret (ev_call (ts := [.list ((List.range l.length).map iT), .list [C], .list [.bool false], .bool true]) (evL_cons (ev_call (ts := [.list [C], .bool true]) rfl hk) rfl) h3))
theorem r_frame_rows (n : Nat) (cols names : List T) (rows : List T) (h : rows.length ≤ 1000) : ct (n + 1) 622 [fr cols names (icol rows)] = some (.int rows.length) := by
  refine ct_of f_frame_rows.fe n (by kernel_rfl) rfl rfl rfl ?_
  refine st_ite (v := false) (r := .nxt _) (by kernel_rfl) st_nil (st_ret (ev_bcall (ts := [.list rows]) (by kernel_rfl) (len_list _ h)))
theorem r_names_of (n : Nat) (cols names : List T) (rows : T) (h : names.length ≤ 1000) : ct (n + 3) 388 [fr cols names rows] = some (.list names) := by
  refine ct_of f_names_of.fe (n + 2) (by kernel_rfl) rfl rfl rfl ?_
  refine st_ite (v := false) (r := .nxt _) (by kernel_rfl) st_nil (st_ite (v := false) (r := .nxt _) (by kernel_rfl) st_nil (st_asg (t := .none) (by kernel_rfl) (st_ite (v := false) (r := .nxt _) (by kernel_rfl) st_nil (st_asg (t := chr names) (by kernel_rfl) (st_ite (v := false) (r := .nxt _) (by kernel_rfl) st_nil (st_ret ?_))))))
  exact ev_bcall (ts := [.list names]) (by kernel_rfl) (if_pos (le_lim h))
theorem r_column_names (n : Nat) (cols : List T) (names : List Str) (rows : T) (h : names.length ≤ 1000) : ct (n + 4) 627 [fr cols (names.map .str) rows] = some (.list (names.map .str)) := by
  refine ct_of f_column_names.fe (n + 3) (by kernel_rfl) rfl rfl rfl ?_
  have hn := r_names_of n cols (names.map .str) rows (by rw [List.length_map]; exact h)
  generalize fr cols (names.map .str) rows = Fr at hn
  refine st_asg (t := .list (names.map .str)) (ev_call (ts := [Fr]) rfl hn) (st_ret (ev_ite (v := false) rfl ?_))
  have : compRun (fun _ => some true) (fun t => ev (ct (n + 3)) false ([LV.frz Fr, .frz (.list (names.map .str))] ++ [LV.frz t]) (.ite (.cmp .Is (.var 2) .none) (.str "NA") (.var 2))) (names.map .str) = some (names.map .str) := by
    clear h hn
    have : ∀ ns : List Str, compRun (fun _ => some true) (fun t => ev (ct (n + 3)) false ([LV.frz Fr, .frz (.list (names.map .str))] ++ [LV.frz t]) (.ite (.cmp .Is (.var 2) .none) (.str "NA") (.var 2))) (ns.map .str) = some (ns.map .str) := by
      intro ns
      induction ns with
      | nil => rfl
      | cons s ns ih =>
        show (do let r ← some (T.str s); let rs ← compRun (fun _ => some true) (fun t => ev (ct (n + 3)) false ([LV.frz Fr, .frz (.list (names.map .str))] ++ [LV.frz t]) (.ite (.cmp .Is (.var 2) .none) (.str "NA") (.var 2))) (ns.map .str); pure (r :: rs)) = _
        rw [ih]; rfl
    exact this names
  exact ev_comp (u := .list (names.map .str)) rfl (if_pos (by rw [List.length_map]; exact le_lim h)) this
theorem r_character (n : Nat) (l : List T) (h : l.length ≤ 1000) : ct (n + 2) 336 [.list l] = some (chr l) :=
  ct_of f_character.fe (n + 1) (by kernel_rfl) rfl rfl rfl (st_ret (ev_call (ts := [.str "character", .list l]) (evL_cons rfl (evL_cons (ev_bcall (ts := [.list l]) rfl (if_pos (le_lim h))) rfl)) rfl))
theorem r_share (n : Nat) (k i a : T) : ct (n + 1) 357 [.vec k i a] = some (.vec k i a) := by kernel_rfl
noncomputable def isVec : T → Prop
  | .vec _ _ _ => True
  | _ => False
theorem r_new_frame (n : Nat) (cols names : List T) (rows : T) (hc : cols.length ≤ 100) (hn : names.length ≤ 1000) (hv : ∀ t ∈ cols, isVec t) : ct (n + 3) 608 [.list cols, .list names, rows] = some (fr cols names rows) := by
  refine ct_of f_new_frame.fe (n + 2) (by kernel_rfl) rfl rfl rfl ?_
  have hsh : compRun (fun _ => some true) (fun t => ev (ct (n + 2)) false ([LV.frz (.list cols), .frz (.list names), .frz rows, .undef] ++ [LV.frz t]) (.call "share" 357 [(.var 4)])) cols = some cols := by
    have := comp_map (test := fun _ => some true) (f := fun t => ev (ct (n + 2)) false ([LV.frz (.list cols), .frz (.list names), .frz rows, .undef] ++ [LV.frz t]) (.call "share" 357 [(.var 4)])) (g := fun t => t) (items := cols) fun t ht => ⟨rfl, by
      match t, hv t ht with
      | .vec k i a, _ => exact ev_call (ts := [.vec k i a]) rfl (r_share (n + 1) k i a)⟩
    rwa [List.map_id'] at this
  have e1 : evL (ct (n + 2)) false [.frz (.list cols), .frz (.list names), .frz rows, .undef] [(.str "list"), (.comp (.call "share" 357 [(.var 4)]) (.var 0) none)] = some [.str "list", .list cols] :=
    evL_cons rfl (evL_cons (ev_comp (u := .list cols) rfl (if_pos (le_lim (by omega))) hsh) rfl)
  show (match (match evL (ct (n + 2)) false [.frz (.list cols), .frz (.list names), .frz rows, .undef] [(.str "list"), (.comp (.call "share" 357 [(.var 4)]) (.var 0) none)] with | some [k, t] => some (Out.nxt [.frz (.list cols), .frz (.list names), .frz rows, .ownv k t .none]) | _ => none) with
    | some (.nxt σ') => exs (ct (n + 2)) (f_new_frame.ms.drop 1) σ' | r => r) = _
  rw [e1]
  have e2 : ev (ct (n + 2)) false [.frz (.list cols), .frz (.list names), .frz rows, .ownv (.str "list") (.list cols) .none] (.dict ["names", "class", "row.names"] [(.call "character" 336 [(.var 1)]), (.call "character" 336 [(.list [(.str "data.frame")])]), (.var 2)]) = some (.dict ["names", "class", "row.names"] [chr names, chr [.str "data.frame"], rows]) := by
    show (do pure (T.dict ["names", "class", "row.names"] (← evL (ct (n + 2)) false [.frz (.list cols), .frz (.list names), .frz rows, .ownv (.str "list") (.list cols) .none] [(.call "character" 336 [(.var 1)]), (.call "character" 336 [(.list [(.str "data.frame")])]), (.var 2)]))) = _
    rw [evL_cons (ev_call (ts := [.list names]) rfl (r_character n names hn)) (evL_cons (ev_call (ts := [.list [.str "data.frame"]]) rfl (r_character n [.str "data.frame"] (by decide))) rfl)]
    rfl
  show (match (match (some (LV.ownv (.str "list") (.list cols) .none) : Option LV), ev (ct (n + 2)) false [.frz (.list cols), .frz (.list names), .frz rows, .ownv (.str "list") (.list cols) .none] (.dict ["names", "class", "row.names"] [(.call "character" 336 [(.var 1)]), (.call "character" 336 [(.list [(.str "data.frame")])]), (.var 2)]) with
      | some (.ownv k t _), some u => some (Out.nxt [.frz (.list cols), .frz (.list names), .frz rows, .ownv k t u]) | _, _ => none) with | some (.nxt σ') => exs (ct (n + 2)) [.frz 3, .ret (.var 3)] σ' | r => r) = _
  rw [e2]
  exact st_frz rfl rfl (st_ret rfl)
end Mine
end
section
open PySem PySem.W PySem.Spec PySem.SeqAt
set_option tactic.hygienic false
namespace Mine
theorem rows_len (n : Nat) : ((rngL 1 ((n : Int) + 1) 1).map T.int).length = n := by
  rw [List.length_map]
  unfold rngL rngN
  rw [List.length_map, List.length_range]
  by_cases h : (1 : Int) < (n : Int) + 1
  · rw [if_pos h]; omega
  · rw [if_neg h]; omega
theorem r_plain (n m : Nat) (h : m ≤ 900) : ct (n + 3) 615 [.int (m : Nat)] = some (rowsT m) := by
  refine ct_of f_plain_rows.fe (n + 2) (by kernel_rfl) rfl rfl rfl (st_ret ?_)
  have h1 : midI 1 = true := by decide
  have h2 : midI ((m : Int) + 1) = true := decide_eq_true (by omega)
  have hr : tcall .range [.int 1, .int ((m : Int) + 1)] = some (.rng 1 ((m : Int) + 1) 1) := by
    show (if midI 1 && midI ((m : Int) + 1) then some (T.rng 1 ((m : Int) + 1) 1) else none) = _
    rw [h1, h2]; rfl
  have hl : tcall .list [.rng 1 ((m : Int) + 1) 1] = some (.list ((rngL 1 ((m : Int) + 1) 1).map .int)) := by
    show (if midI 1 && midI ((m : Int) + 1) && (decide ((0 : Int) < 1) && decide ((1 : Int) < 1000)) && decide (rngN 1 ((m : Int) + 1) 1 ≤ lim) then some (T.list ((rngL 1 ((m : Int) + 1) 1).map T.int)) else none) = _
    have hn : rngN 1 ((m : Int) + 1) 1 ≤ lim := by
      have := rows_len m
      rw [List.length_map] at this
      unfold rngL at this
      rw [List.length_map, List.length_range] at this
      rw [this]; exact le_lim (by omega)
    rw [h1, h2, decide_eq_true hn]; rfl
  have hi : ct (n + 2) 329 [.list ((rngL 1 ((m : Int) + 1) 1).map .int)] = some (rowsT m) :=
    ct_of f_integer.fe (n + 1) (by kernel_rfl) rfl rfl rfl (st_ret (ev_call (ts := [.str "integer", .list ((rngL 1 ((m : Int) + 1) 1).map .int)]) (evL_cons rfl (evL_cons (ev_bcall (ts := [.list ((rngL 1 ((m : Int) + 1) 1).map .int)]) rfl (if_pos (by rw [rows_len]; exact le_lim (by omega)))) rfl)) rfl))
  exact ev_call (evL_cons (ev_bcall (evL_cons (ev_bcall (ts := [.int 1, .int ((m : Int) + 1)]) rfl hr) rfl) hl) rfl) hi
noncomputable def kfr (sp : Bool) (a : List Nat) (A : List T) (h : Str) : T := fr [col sp a, icol A] [.str "k", .str h] (rowsT a.length)
theorem pairs_len {a b : List Nat} {x y : Bool} (hla : a.length ≤ 5) (hlb : b.length ≤ 5) : (pairsP a b x y).length ≤ 35 := by
  have h1 : (matchedP a b).length ≤ 25 := Nat.le_trans matched_len (Nat.mul_le_mul hla hlb)
  have h2 := lone_len a b
  have h3 := lone_len b a
  unfold pairsP
  rw [List.length_append, List.length_append]
  cases x <;> cases y <;> simp <;> omega
theorem pairs_ok {a b : List Nat} {x y : Bool} : ∀ p ∈ pairsP a b x y, okP a b p := by
  intro p hp
  unfold pairsP at hp
  rcases List.mem_append.mp hp with hp | hp
  · rcases List.mem_append.mp hp with hp | hp
    · obtain ⟨i, hi, hp⟩ := List.mem_flatMap.mp hp
      obtain ⟨j, hj, rfl⟩ := List.mem_map.mp hp
      exact ⟨List.mem_range.mp hi, List.mem_range.mp (List.mem_filter.mp hj).1⟩
    · cases x with
      | true =>
        rw [if_pos rfl] at hp
        obtain ⟨i, hi, rfl⟩ := List.mem_map.mp hp
        exact List.mem_range.mp (List.mem_filter.mp hi).1
      | false => cases hp
  · cases y with
    | true =>
      rw [if_pos rfl] at hp
      obtain ⟨j, hj, rfl⟩ := List.mem_map.mp hp
      exact List.mem_range.mp (List.mem_filter.mp hj).1
    | false => cases hp
theorem small_fig {a b : List Nat} (ha : small a) (hb : small b) {P : List (Option Nat × Option Nat)} (hP : ∀ p ∈ P, okP a b p) : small (P.map (figP a b)) := by
  intro f hf
  obtain ⟨p, hp, rfl⟩ := List.mem_map.mp hf
  match p, hP p hp with
  | (some i, q), h =>
    have := okP_fst h
    have e : figP a b (some i, q) = a[i] := by show a.getD i 4 = _; simp [List.getD, this]
    rw [e]; exact ha _ (by simp)
  | (none, some j), h =>
    have h' : j < b.length := h
    have e : figP a b (none, some j) = b[j] := by show b.getD j 4 = _; simp [List.getD, h']
    rw [e]; exact hb _ (by simp)
theorem r_check_by (n : Nat) (cols : List T) (rows : T) (h : Str) (hh : h = "v" ∨ h = "w") : ct (n + 5) 677 [fr cols [.str "k", .str h] rows, .list [.str "k"]] = some (.list [.int 0]) := by
  rcases hh with rfl | rfl <;> kernel_rfl
theorem r_check_nil (n : Nat) (cols : List T) (rows : T) (h : Str) (hh : h = "v" ∨ h = "w") : ct (n + 5) 677 [fr cols [.str "k", .str h] rows, .list []] = some (.list []) := by
  rcases hh with rfl | rfl <;> kernel_rfl
theorem r_pick_col (n : Nat) (A : List T) (P : List (Option Nat × Option Nat)) (pr : Option Nat × Option Nat → Option Nat) (hb : ∀ p ∈ P, ∀ i, pr p = some i → i < A.length) (hA : A.length ≤ 100) (hP : P.length ≤ 100) :
    ct (n + 2) 648 [icol A, .list (P.map fun p => oi (pr p))] = some (icol (P.map fun p => pk A (pr p))) := by
  have := r_pick n (.str "integer") (by kernel_rfl) A (P.map pr) (fun i hi => by
    obtain ⟨p, hp, q⟩ := List.mem_map.mp hi
    exact hb p hp i q) hA (by rw [List.length_map]; exact hP)
  rw [List.map_map, List.map_map] at this
  exact this
end Mine
end
section
open PySem PySem.W PySem.Spec PySem.SeqAt
set_option tactic.hygienic false
namespace Mine
theorem comp_mapP {k g : Option Nat × Option Nat → T} {f : T → Option T} : ∀ {l : List (Option Nat × Option Nat)}, (∀ x ∈ l, f (k x) = some (g x)) → compRun (fun _ => some true) f (l.map k) = some (l.map g)
  | [], _ => rfl
  | x :: l, h => by
    rw [List.map_cons, List.map_cons]
    unfold compRun
    show (do let r ← f (k x); let rs ← compRun (fun _ => some true) f (l.map k); pure (r :: rs)) = _
    rw [h x (.head _)]
    show (do let rs ← compRun (fun _ => some true) f (l.map k); pure (g x :: rs)) = _
    rw [comp_mapP fun y hy => h y (.tail _ hy)]; rfl
theorem tbin_add (u v : List T) (h : u.length + v.length ≤ 1000) : tbin .Add (.list u) (.list v) = some (.list (u ++ v)) := if_pos (le_lim h)
theorem mf_tail (n : Nat) (KC CA CB IA IB L R rL rR u10 u11 u13 u14 : T) (A B : List T) (P : List (Option Nat × Option Nat)) (nL nR o1 o2 : List T) (x y : T) (s0 s1 : T) (ord : T) (v10 v11 v13 v14 : LV)
    (hKC : isVec KC) (lL : tattr L "items" = some (.list [CA, icol A])) (lR : tattr R "items" = some (.list [CB, icol B]))
    (m1 : ct (n + 6) 627 [L] = some (.list nL)) (m2 : ct (n + 6) 627 [R] = some (.list nR)) (hnL : nL.length = 2) (hnR : nR.length = 2)
    (p1 : ct (n + 6) 717 [.list nL, .list nR, .list [.str "k"], s0] = some (.list o1)) (p2 : ct (n + 6) 717 [.list nR, .list nL, .list [.str "k"], s1] = some (.list o2)) (ho1 : o1.length ≤ 5) (ho2 : o2.length ≤ 5)
    (hA : A.length ≤ 100) (hB : B.length ≤ 100) (hP : P.length ≤ 100) (bA : ∀ p ∈ P, ∀ i, p.1 = some i → i < A.length) (bB : ∀ p ∈ P, ∀ i, p.2 = some i → i < B.length) :
    exs (ct (n + 6)) (f_merge_frames.ms.drop 6) [.frz L, .frz R, .frz (.list [.str "k"]), .frz x, .frz y, .frz (.list [s0, s1]), .frz ord, .frz (.list [.int 0]), .frz (.list [.int 0]), .frz (.list (P.map pT)), v10, v11, .own [KC], v13, v14, .undef, .undef, .undef, .undef]
      = some (.ret (fr [KC, icol (P.map fun p => pk A p.1), icol (P.map fun p => pk B p.2)] ([.str "k"] ++ o1 ++ o2) (rowsT P.length))) := by
  have k1 := r_pick_col (n + 4) A P (fun p => p.1) bA hA hP
  have k2 := r_pick_col (n + 4) B P (fun p => p.2) bB hB hP
  have hpl : (T.list (P.map pT)) = T.list (P.map pT) := rfl
  have c1 : ∀ σ : List LV, compRun (fun _ => some true) (fun t => ev (ct (n + 6)) false ([LV.frz L, .frz R, .frz (.list [.str "k"]), .frz x, .frz y, .frz (.list [s0, s1]), .frz ord, .frz (.list [.int 0]), .frz (.list [.int 0]), .frz (.list (P.map pT)), v10, v11] ++ σ.take 7 ++ [LV.frz t]) (.idx (.var 19) (.int 0))) (P.map pT) = some (P.map fun p => oi p.1) → True := fun _ _ => trivial
  refine st_asg (t := .list nL) (ev_call (ts := [L]) rfl m1) (st_asg (t := .list nR) (ev_call (ts := [R]) rfl m2) ?_)
  have lenL : tcall .len [.list nL] = some (.int 2) := by rw [len_list _ (by omega), hnL]; rfl
  have lenR : tcall .len [.list nR] = some (.int 2) := by rw [len_list _ (by omega), hnR]; rfl
  have rg : tcall .range [.int 2] = some (.rng 0 2 1) := by kernel_rfl
  have it : iterT (.rng 0 2 1) = some [.int 0, .int 1] := by kernel_rfl
  refine st_for (u := .rng 0 2 1) (r := .nxt [.frz L, .frz R, .frz (.list [.str "k"]), .frz x, .frz y, .frz (.list [s0, s1]), .frz ord, .frz (.list [.int 0]), .frz (.list [.int 0]), .frz (.list (P.map pT)), v10, v11, .own [KC, icol (P.map fun p => pk A p.1)], v13, v14, .frz (.list nL), .frz (.list nR), .frz (.int 1), .undef])
    (ev_bcall (ts := [.int 2]) (evL_cons (ev_bcall (ts := [.list nL]) rfl lenL) rfl) rg) it (run_cons (st_ite (v := false) (r := .nxt _) rfl st_nil st_nil) (run_cons (st_ite (v := true) (r := .nxt _) rfl ?_ st_nil) rfl)) ?_
  · refine st_app (t := icol (P.map fun p => pk A p.1)) rfl (ev_call (ts := [icol A, .list (P.map fun p => oi p.1)]) (evL_cons (ev_idx (o := .list [CA, icol A]) (u := .int 1) (ev_attr (o := L) rfl lL) rfl rfl) (evL_cons (ev_comp (u := .list (P.map pT)) rfl (if_pos (by rw [List.length_map]; exact le_lim (by omega))) (comp_mapP fun p hp => ?_)) rfl)) k1) (show 1 < lim by decide) st_nil
    exact rfl
  refine st_for (u := .rng 0 2 1) (r := .nxt [.frz L, .frz R, .frz (.list [.str "k"]), .frz x, .frz y, .frz (.list [s0, s1]), .frz ord, .frz (.list [.int 0]), .frz (.list [.int 0]), .frz (.list (P.map pT)), v10, v11, .own [KC, icol (P.map fun p => pk A p.1), icol (P.map fun p => pk B p.2)], v13, v14, .frz (.list nL), .frz (.list nR), .frz (.int 1), .undef])
    (ev_bcall (ts := [.int 2]) (evL_cons (ev_bcall (ts := [.list nR]) rfl lenR) rfl) rg) it (run_cons (st_ite (v := false) (r := .nxt _) rfl st_nil st_nil) (run_cons (st_ite (v := true) (r := .nxt _) rfl ?_ st_nil) rfl)) ?_
  · refine st_app (t := icol (P.map fun p => pk B p.2)) rfl (ev_call (ts := [icol B, .list (P.map fun p => oi p.2)]) (evL_cons (ev_idx (o := .list [CB, icol B]) (u := .int 1) (ev_attr (o := R) rfl lR) rfl rfl) (evL_cons (ev_comp (u := .list (P.map pT)) rfl (if_pos (by rw [List.length_map]; exact le_lim (by omega))) (comp_mapP fun p hp => ?_)) rfl)) k2) (show 2 < lim by decide) st_nil
    exact rfl
  refine st_frz rfl rfl ?_
  refine st_asg (t := .list ([T.str "k"] ++ o1)) (ev_bin (x := .list [T.str "k"]) (y := .list o1) rfl (ev_call (ts := [.list nL, .list nR, .list [.str "k"], s0]) rfl p1) (tbin_add [T.str "k"] o1 (by show 1 + o1.length ≤ _; omega))) ?_
  refine st_asg (t := .list ([T.str "k"] ++ o1 ++ o2)) (ev_bin (x := .list ([T.str "k"] ++ o1)) (y := .list o2) rfl (ev_call (ts := [.list nR, .list nL, .list [.str "k"], s1]) rfl p2) (tbin_add _ _ (by rw [List.length_append]; show 1 + o1.length + _ ≤ _; omega))) ?_
  have hpr : ct (n + 6) 615 [.int (P.length : Nat)] = some (rowsT P.length) := r_plain (n + 3) P.length (by omega)
  have hlen : tcall .len [.list (P.map pT)] = some (.int P.length) := by rw [len_list _ (by rw [List.length_map]; omega), List.length_map]
  refine st_ret (ev_call (ts := [.list [KC, icol (P.map fun p => pk A p.1), icol (P.map fun p => pk B p.2)], .list ([.str "k"] ++ o1 ++ o2), rowsT P.length]) (evL_cons rfl (evL_cons rfl (evL_cons (ev_call (ts := [.int P.length]) (evL_cons (ev_bcall (ts := [.list (P.map pT)]) rfl hlen) rfl) hpr) rfl))) ?_)
  refine r_new_frame (n + 3) _ _ _ (by show 3 ≤ 100; decide) (by rw [List.length_append, List.length_append]; show 1 + _ + _ ≤ _; omega) fun t ht => ?_
  rcases List.mem_cons.mp ht with rfl | ht
  · exact hKC
  · rcases List.mem_cons.mp ht with rfl | ht
    · trivial
    · rcases List.mem_cons.mp ht with rfl | ht
      · trivial
      · cases ht
end Mine
end
section
open PySem PySem.W PySem.Spec PySem.SeqAt
set_option tactic.hygienic false
namespace Mine
theorem perm_getD {α : Type} (l : List α) (d : α) {R : List Nat} (h : R.Perm (List.range l.length)) : (R.map fun i => l.getD i d).Perm l := by
  refine (h.map _).trans ?_
  have : (List.range l.length).map (fun i => l.getD i d) = l := by
    refine List.ext_getElem (by simp) fun i h1 h2 => ?_
    simp [List.getD, h2]
  rw [this]
theorem comp_mapI {k g : Nat → T} {f : T → Option T} {l : List Nat} (h : ∀ x ∈ l, f (k x) = some (g x)) : compRun (fun _ => some true) f (l.map k) = some (l.map g) := comp_mapN h
theorem idx_pairs (P : List (Option Nat × Option Nat)) (i : Nat) (hi : i < P.length) (hl : P.length ≤ 1000) : tidx (.list (P.map pT)) (iT i) = some (pT (P.getD i (none, none))) := by
  rw [show tidx (.list (P.map pT)) (iT i) = some ((P.map pT)[i]'(by rw [List.length_map]; exact hi)) from idx_list _ i (by rw [List.length_map]; exact hi) (by rw [List.length_map]; exact hl)]
  simp [List.getD, hi]
theorem map_some (R : List Nat) (L : List T) : (R.map some).map (pk L) = R.map fun i => L.getD i .none := by rw [List.map_map]; rfl
theorem map_two {α β : Type} (R : List Nat) (g : Nat → α) (k : α → β) : (R.map g).map k = R.map fun i => k (g i) := by rw [List.map_map]; rfl
theorem map_oi (R : List Nat) : (R.map some).map oi = R.map iT := by rw [List.map_map]; rfl
theorem r_merge_k (n : Nat) (sp : Bool) (a b : List Nat) (A B : List T) (hL hR s0 s1 : Str) (o1 o2 : List T) (x y ord : Bool) (ha : small a) (hb : small b) (hla : a.length ≤ 5) (hlb : b.length ≤ 5) (hA : A.length = a.length) (hB : B.length = b.length)
    (vL : hL = "v" ∨ hL = "w") (vR : hR = "v" ∨ hR = "w") (p1 : ct (n + 6) 717 [.list [.str "k", .str hL], .list [.str "k", .str hR], .list [.str "k"], .str s0] = some (.list o1)) (p2 : ct (n + 6) 717 [.list [.str "k", .str hR], .list [.str "k", .str hL], .list [.str "k"], .str s1] = some (.list o2))
    (ho1 : o1.length ≤ 5) (ho2 : o2.length ≤ 5) :
    ∃ P : List (Option Nat × Option Nat), P.Perm (pairsP a b x y) ∧ (ord = true → (P.map (figP a b)).Pairwise fun f g => rank sp f ≤ rank sp g) ∧
      ct (n + 7) 735 [kfr sp a A hL, kfr sp b B hR, .list [.str "k"], .bool x, .bool y, .list [.str s0, .str s1], .bool ord] = some (fr [col sp (P.map (figP a b)), icol (P.map fun p => pk A p.1), icol (P.map fun p => pk B p.2)] ([.str "k"] ++ o1 ++ o2) (rowsT P.length)) := by
  have hpl := pairs_len (x := x) (y := y) hla hlb
  have hpo := pairs_ok (a := a) (b := b) (x := x) (y := y)
  have c1 := r_check_by (n + 1) [col sp a, icol A] (rowsT a.length) hL vL
  have c2 := r_check_by (n + 1) [col sp b, icol B] (rowsT b.length) hR vR
  have f1 := r_frame_rows (n + 5) [col sp a, icol A] [.str "k", .str hL] ((rngL 1 ((a.length : Int) + 1) 1).map .int) (by rw [rows_len]; omega)
  have f2 := r_frame_rows (n + 5) [col sp b, icol B] [.str "k", .str hR] ((rngL 1 ((b.length : Int) + 1) 1).map .int) (by rw [rows_len]; omega)
  rw [rows_len] at f1 f2
  have g1 := r_row_keys n sp a (by omega) ha
  have g2 := r_row_keys n sp b (by omega) hb
  have m1 := r_column_names (n + 2) [col sp a, icol A] ["k", hL] (rowsT a.length) (by show 2 ≤ 1000; decide)
  have m2 := r_column_names (n + 2) [col sp b, icol B] ["k", hR] (rowsT b.length) (by show 2 ≤ 1000; decide)
  have hm := r_merged (n + 4) sp a b x y ha hb hla hlb
  have hk := r_key (n + 1) sp a b (pairsP a b x y) hla hlb hpo (by omega)
  have tl := fun (P : List (Option Nat × Option Nat)) (hP : P.Perm (pairsP a b x y)) v10 v11 v13 v14 => mf_tail n (col sp (P.map (figP a b))) (col sp a) (col sp b) .none .none (kfr sp a A hL) (kfr sp b B hR) .none .none .none .none .none .none A B P [.str "k", .str hL] [.str "k", .str hR] o1 o2 (.bool x) (.bool y) (.str s0) (.str s1) (.bool ord) v10 v11 v13 v14
    trivial rfl rfl m1 m2 rfl rfl p1 p2 ho1 ho2 (by omega) (by omega) (by rw [hP.length_eq]; omega) (fun p hp i hi => by
      have := hpo p (hP.mem_iff.mp hp)
      obtain ⟨p1, p2⟩ := p
      dsimp only at hi
      subst hi
      rw [hA]; exact okP_fst this) (fun p hp i hi => by
      have := hpo p (hP.mem_iff.mp hp)
      obtain ⟨p1, p2⟩ := p
      dsimp only at hi
      subst hi
      rw [hB]
      cases p1 with
      | none => exact this
      | some j => exact this.2)
  generalize hPP : pairsP a b x y = PP at hpl hpo hm hk tl ⊢
  -- the head of the body
  have head : ∀ o, exs (ct (n + 6)) (f_merge_frames.ms.drop 5) [.frz (kfr sp a A hL), .frz (kfr sp b B hR), .frz (.list [.str "k"]), .frz (.bool x), .frz (.bool y), .frz (.list [.str s0, .str s1]), .frz (.bool ord), .frz (.list [.int 0]), .frz (.list [.int 0]), .frz (.list (PP.map pT)), .frz (.list (a.map (rkT sp))), .frz (.list (b.map (rkT sp))), .own [col sp (PP.map (figP a b))], .frz (.int 0), .undef, .undef, .undef, .undef, .undef] = some (.ret o) →
      ct (n + 7) 735 [kfr sp a A hL, kfr sp b B hR, .list [.str "k"], .bool x, .bool y, .list [.str s0, .str s1], .bool ord] = some o := by
    intro o ho
    refine ct_of f_merge_frames.fe (n + 6) (by kernel_rfl) rfl rfl rfl ?_
    refine st_asg (t := .list [.int 0]) (ev_call (ts := [kfr sp a A hL, .list [.str "k"]]) rfl c1) (st_asg (t := .list [.int 0]) (ev_call (ts := [kfr sp b B hR, .list [.str "k"]]) rfl c2) ?_)
    refine st_ite (v := false) (r := .nxt _) rfl (st_asg (t := .list (a.map (rkT sp))) (ev_call (ts := [.list [col sp a], .int a.length]) (evL_cons rfl (evL_cons (ev_call (ts := [kfr sp a A hL]) rfl f1) rfl)) g1) (st_asg (t := .list (b.map (rkT sp))) (ev_call (ts := [.list [col sp b], .int b.length]) (evL_cons rfl (evL_cons (ev_call (ts := [kfr sp b B hR]) rfl f2) rfl)) g2)
      (st_asg (t := .list (PP.map pT)) (ev_call (ts := [.list (a.map (rkT sp)), .list (b.map (rkT sp)), .bool x, .bool y]) rfl hm) st_nil))) ?_
    refine st_asgF (l := []) rfl (st_for (u := .rng 0 1 1) (items := [.int 0]) (r := .nxt _) rfl (by kernel_rfl) (run_cons (st_app (t := col sp (PP.map (figP a b))) rfl (ev_call (ts := [col sp a, col sp b, .list (PP.map pT)]) rfl hk) (show 0 < lim by decide) st_nil) rfl) ho)
  cases ord with
  | false =>
    refine ⟨PP, .refl _, (fun h => (by exact ff_el h)), head _ (st_ite (v := false) (r := .nxt _) rfl st_nil (tl PP (.refl _) _ _ _ _))⟩
  | true =>
    obtain ⟨R, r1, r2, r3⟩ := r_order_by n sp (PP.map (figP a b)) (small_fig ha hb hpo) (by rw [List.length_map]; omega)
    rw [List.length_map] at r1
    have mo := r_merge_order (n + 2) sp (x || y) (PP.map (figP a b))
    have hRl : ∀ i ∈ R, i < PP.length := fun i hi => List.mem_range.mp (r1.mem_iff.mp hi)
    have hRlen : R.length = PP.length := by rw [r1.length_eq, List.length_range]
    have e : (R.map fun i => PP.getD i (none, none)).map (figP a b) = R.map fun i => (PP.map (figP a b)).getD i 4 := by
      rw [List.map_map]
      refine List.map_congr_left fun i hi => ?_
      exact (getD_map_lt PP (figP a b) i 4 (none, none) (hRl i hi)).symm
    have hperm := perm_getD PP (none, none) r1
    refine ⟨R.map fun i => PP.getD i (none, none), hperm, fun _ => ?_, head _ ?_⟩
    · rw [e]; exact List.pairwise_map.mpr r2
    · have hpk := r_pick (n + 4) (kd sp) (r_lacking (n + 4) sp) ((PP.map (figP a b)).map (kv sp)) (R.map some) (fun i hi => by
        obtain ⟨j, hj, q⟩ := List.mem_map.mp hi
        cases q
        rw [List.length_map, List.length_map]; exact hRl i hj) (by rw [List.length_map, List.length_map]; omega) (by rw [List.length_map]; omega)
      have e3 : (R.map some).map (pk ((PP.map (figP a b)).map (kv sp))) = ((R.map fun i => PP.getD i (none, none)).map (figP a b)).map (kv sp) := by
        rw [e, map_some, map_two]
        refine List.map_congr_left fun i hi => ?_
        exact getD_map_lt (PP.map (figP a b)) (kv sp) i .none 4 (by rw [List.length_map]; exact hRl i hi)
      rw [e3, map_oi] at hpk
      have ho : ev (ct (n + 6)) false [.frz (kfr sp a A hL), .frz (kfr sp b B hR), .frz (.list [.str "k"]), .frz (.bool x), .frz (.bool y), .frz (.list [.str s0, .str s1]), .frz (.bool true), .frz (.list [.int 0]), .frz (.list [.int 0]), .frz (.list (PP.map pT)), .frz (.list (a.map (rkT sp))), .frz (.list (b.map (rkT sp))), .frz (.list [col sp (PP.map (figP a b))]), .frz (.int 0), .undef, .undef, .undef, .undef, .undef] (.bop .Or [(.var 3), (.var 4)]) = some (.bool (x || y)) := by cases x <;> rfl
      refine st_ite (v := true) (r := .nxt _) rfl (st_frz rfl rfl (st_asg (t := .list (R.map iT)) (ev_call (ts := [.list [col sp (PP.map (figP a b))]]) (evL_cons (ev_call (ts := [.list [col sp (PP.map (figP a b))], .bool (x || y)]) (evL_cons rfl (evL_cons ho rfl)) mo) rfl) r3)
        (st_asgF (l := R.map fun i => pT (PP.getD i (none, none))) (ev_comp (u := .list (R.map iT)) rfl (if_pos (by rw [List.length_map]; exact le_lim (by omega))) (comp_mapI fun i hi => ev_idx (o := .list (PP.map pT)) (u := iT i) rfl rfl (idx_pairs PP i (hRl i hi) (by omega))))
          (st_frz rfl rfl (st_asgF (l := [col sp ((R.map fun i => PP.getD i (none, none)).map (figP a b))]) (ev_comp (u := .list [col sp (PP.map (figP a b))]) rfl rfl (comp_map (g := fun _ => col sp ((R.map fun i => PP.getD i (none, none)).map (figP a b))) (items := [col sp (PP.map (figP a b))]) fun t ht => ⟨rfl, by
            obtain rfl := List.mem_singleton.mp ht
            exact ev_call (ts := [col sp (PP.map (figP a b)), .list (R.map iT)]) rfl hpk⟩)) st_nil))))) ?_
      have := tl _ hperm (.frz (.list (a.map (rkT sp)))) (.frz (.list (b.map (rkT sp)))) (.frz (.int 0)) (.frz (.list (R.map iT)))
      rw [List.map_map] at this
      exact this
end Mine
end
section
open PySem PySem.W PySem.Spec PySem.SeqAt
set_option tactic.hygienic false
namespace Mine
noncomputable def strOf (l : List T) : Str := PyData.shown (pd (.list l))
noncomputable def okS (l : List T) : Prop := tcall .str [.list l] = some (.str (strOf l))
noncomputable def rowAt (cs : List (T × List T)) (i : Nat) : List T := cs.map fun c => c.2.getD i .none
theorem comp_mapC {k g : T × List T → T} {f : T → Option T} : ∀ {l : List (T × List T)}, (∀ x ∈ l, f (k x) = some (g x)) → compRun (fun _ => some true) f (l.map k) = some (l.map g)
  | [], _ => rfl
  | x :: l, h => by
    rw [List.map_cons, List.map_cons]
    unfold compRun
    show (do let r ← f (k x); let rs ← compRun (fun _ => some true) f (l.map k); pure (r :: rs)) = _
    rw [h x (.head _)]
    show (do let rs ← compRun (fun _ => some true) f (l.map k); pure (g x :: rs)) = _
    rw [comp_mapC fun y hy => h y (.tail _ hy)]; rfl
theorem r_lines (n : Nat) (c0 : T × List T) (cs : List (T × List T)) (m : Nat) (hm : ∀ c ∈ c0 :: cs, c.2.length = m) (h60 : m ≤ 60) (hc : (c0 :: cs).length ≤ 10) (names : List T) (rows : T) (hs : ∀ i, i < m → okS (rowAt (c0 :: cs) i)) :
    ct (n + 1) 752 [fr ((c0 :: cs).map fun c => vecN c.1 (.list c.2)) names rows, .bool false] = some (.list ((List.range m).map fun i => .str (strOf (rowAt (c0 :: cs) i)))) := by
  refine ct_of f_law_lines.fe n (by kernel_rfl) rfl rfl rfl ?_
  have hit : tattr (fr ((c0 :: cs).map fun c => vecN c.1 (.list c.2)) names rows) "items" = some (.list ((c0 :: cs).map fun c => vecN c.1 (.list c.2))) := rfl
  have h0 : c0.2.length = m := hm c0 (.head _)
  generalize hF : fr ((c0 :: cs).map fun c => vecN c.1 (.list c.2)) names rows = F at hit
  obtain ⟨q1, q2⟩ := range_T m (by omega)
  refine st_asgF (l := []) rfl ?_
  obtain ⟨σ1, g1, u, v, g2⟩ := for_appL (step := fun σ t => exs (ct n) [.asgF 4 (.comp (.idx (.attr (.var 5) "items") (.var 3)) (.attr (.var 0) "items") none), .frz 4, .ite (.var 1) [.asg 4 (.bin .Add (.slc (.var 4) none (some (.neg (.int 2)))) (.list [(.idx (.var 4) (.neg (.int 1))), (.idx (.var 4) (.neg (.int 2)))]))] [], .app 2 (.bcall .str [(.var 4)])] (σ.set 3 (.frz t)))
    (R := fun acc σ => ∃ u v, σ = [.frz F, .frz (.bool false), .own acc, u, v]) (g := fun t => match t with | .int i => [.str (strOf (rowAt (c0 :: cs) i.toNat))] | _ => []) (items := (List.range m).map iT) (acc := []) (σ := [.frz F, .frz (.bool false), .own [], .undef, .undef]) ⟨_, _, rfl⟩ (fun acc σ t ht hla ⟨u, v, hσ⟩ => by
      subst hσ
      obtain ⟨i, hi, rfl⟩ := List.mem_map.mp ht
      have hi := List.mem_range.mp hi
      refine ⟨_, st_asgF (l := rowAt (c0 :: cs) i) (ev_comp (u := .list ((c0 :: cs).map fun c => vecN c.1 (.list c.2))) (ev_attr (o := F) rfl hit) (if_pos (by rw [List.length_map]; exact le_lim (by omega))) (comp_mapC fun c hc' => ?_)) (st_frz rfl rfl (st_ite (v := false) (r := .nxt _) rfl st_nil
        (st_app (t := .str (strOf (rowAt (c0 :: cs) i))) rfl (ev_bcall (ts := [.list (rowAt (c0 :: cs) i)]) rfl (hs i hi)) (lt_lim (by change acc.length + 1 ≤ 999 at hla; omega)) st_nil))), _, _, rfl⟩
      have hl := hm c hc'
      refine ev_idx (o := .list c.2) (u := iT i) rfl rfl ?_
      rw [idx_list c.2 i (by omega) (by omega)]
      simp [List.getD, show i < c.2.length by omega])
    (by
      have := flat_le (l := (List.range m).map iT) (g := fun t => match t with | .int i => [T.str (strOf (rowAt (c0 :: cs) i.toNat))] | _ => []) (B := 1) fun x hx => by split <;> simp
      rw [List.length_map, List.length_range] at this
      simp only [List.length_nil]; omega)
  have e : [] ++ ((List.range m).map iT).flatMap (fun t => match t with | .int i => [T.str (strOf (rowAt (c0 :: cs) i.toNat))] | _ => []) = (List.range m).map fun i => .str (strOf (rowAt (c0 :: cs) i)) := by
    rw [List.nil_append]
    generalize List.range m = ns
    induction ns with
    | nil => rfl
    | cons a ns ih => rw [List.map_cons, List.flatMap_cons, List.map_cons, ih]; rfl
  rw [e] at g2
  subst g2
  refine st_for (u := .rng 0 m 1) (ev_bcall (ts := [.int m]) (evL_cons (ev_bcall (ts := [.list c0.2]) (evL_cons (ev_attr (o := vecN c0.1 (.list c0.2)) (ev_idx (o := .list ((c0 :: cs).map fun c => vecN c.1 (.list c.2))) (u := .int 0) (ev_attr (o := F) rfl hit) rfl rfl) rfl) rfl) (by rw [len_list _ (by omega), h0])) rfl) q1) q2 g1 (st_frz rfl rfl (st_ret rfl))
end Mine
end
section
open PySem PySem.W PySem.Spec PySem.SeqAt
set_option tactic.hygienic false
namespace Mine
noncomputable def exAt (c0 c1 c2 : T × List T) (i : Nat) : List T := [c0.2.getD i .none, c2.2.getD i .none, c1.2.getD i .none]
theorem r_lines_ex (n : Nat) (c0 c1 c2 : T × List T) (m : Nat) (hm : ∀ c ∈ [c0, c1, c2], c.2.length = m) (h60 : m ≤ 60) (names : List T) (rows : T) (hs : ∀ i, i < m → okS (exAt c0 c1 c2 i)) :
    ct (n + 1) 752 [fr ([c0, c1, c2].map fun c => vecN c.1 (.list c.2)) names rows, .bool true] = some (.list ((List.range m).map fun i => .str (strOf (exAt c0 c1 c2 i)))) := by
  refine ct_of f_law_lines.fe n (by kernel_rfl) rfl rfl rfl ?_
  have hit : tattr (fr ([c0, c1, c2].map fun c => vecN c.1 (.list c.2)) names rows) "items" = some (.list ([c0, c1, c2].map fun c => vecN c.1 (.list c.2))) := rfl
  have h0 : c0.2.length = m := hm c0 (.head _)
  generalize hF : fr ([c0, c1, c2].map fun c => vecN c.1 (.list c.2)) names rows = F at hit
  obtain ⟨q1, q2⟩ := range_T m (by omega)
  refine st_asgF (l := []) rfl ?_
  obtain ⟨σ1, g1, u, v, g2⟩ := for_appL (step := fun σ t => exs (ct n) [.asgF 4 (.comp (.idx (.attr (.var 5) "items") (.var 3)) (.attr (.var 0) "items") none), .frz 4, .ite (.var 1) [.asg 4 (.bin .Add (.slc (.var 4) none (some (.neg (.int 2)))) (.list [(.idx (.var 4) (.neg (.int 1))), (.idx (.var 4) (.neg (.int 2)))]))] [], .app 2 (.bcall .str [(.var 4)])] (σ.set 3 (.frz t)))
    (R := fun acc σ => ∃ u v, σ = [.frz F, .frz (.bool true), .own acc, u, v]) (g := fun t => match t with | .int i => [.str (strOf (exAt c0 c1 c2 i.toNat))] | _ => []) (items := (List.range m).map iT) (acc := []) (σ := [.frz F, .frz (.bool true), .own [], .undef, .undef]) ⟨_, _, rfl⟩ (fun acc σ t ht hla ⟨u, v, hσ⟩ => by
      subst hσ
      obtain ⟨i, hi, rfl⟩ := List.mem_map.mp ht
      have hi := List.mem_range.mp hi
      refine ⟨_, st_asgF (l := rowAt [c0, c1, c2] i) (ev_comp (u := .list ([c0, c1, c2].map fun c => vecN c.1 (.list c.2))) (ev_attr (o := F) rfl hit) (if_pos (e := (none : Option (List T))) (show 3 ≤ lim by decide)) (comp_mapC fun c hc' => ?_)) (st_frz rfl rfl (st_ite (v := true) (r := .nxt _) rfl (st_asg (t := .list (exAt c0 c1 c2 i)) rfl st_nil)
        (st_app (t := .str (strOf (exAt c0 c1 c2 i))) rfl (ev_bcall (ts := [.list (exAt c0 c1 c2 i)]) rfl (hs i hi)) (lt_lim (by change acc.length + 1 ≤ 999 at hla; omega)) st_nil))), _, _, rfl⟩
      have hl := hm c hc'
      refine ev_idx (o := .list c.2) (u := iT i) rfl rfl ?_
      rw [idx_list c.2 i (by omega) (by omega)]
      simp [List.getD, show i < c.2.length by omega])
    (by
      have := flat_le (l := (List.range m).map iT) (g := fun t => match t with | .int i => [T.str (strOf (exAt c0 c1 c2 i.toNat))] | _ => []) (B := 1) fun x hx => by split <;> simp
      rw [List.length_map, List.length_range] at this
      simp only [List.length_nil]; omega)
  have e : [] ++ ((List.range m).map iT).flatMap (fun t => match t with | .int i => [T.str (strOf (exAt c0 c1 c2 i.toNat))] | _ => []) = (List.range m).map fun i => .str (strOf (exAt c0 c1 c2 i)) := by
    rw [List.nil_append]
    generalize List.range m = ns
    induction ns with
    | nil => rfl
    | cons a ns ih => rw [List.map_cons, List.flatMap_cons, List.map_cons, ih]; rfl
  rw [e] at g2
  subst g2
  refine st_for (u := .rng 0 m 1) (ev_bcall (ts := [.int m]) (evL_cons (ev_bcall (ts := [.list c0.2]) (evL_cons (ev_attr (o := vecN c0.1 (.list c0.2)) (ev_idx (o := .list ([c0, c1, c2].map fun c => vecN c.1 (.list c.2))) (u := .int 0) (ev_attr (o := F) rfl hit) rfl rfl) rfl) rfl) (by rw [len_list _ (by omega), h0])) rfl) q1) q2 g1 (st_frz rfl rfl (st_ret rfl))
end Mine
end
section
open PySem PySem.W PySem.Spec PySem.SeqAt
set_option tactic.hygienic false
namespace Mine
noncomputable def crossP (p q : Nat) : List (Option Nat × Option Nat) := (List.range q).flatMap fun j => (List.range p).map fun i => (some i, some j)
theorem r_all_pairs (n : Nat) (p q : Nat) (hp : p ≤ 5) (hq : q ≤ 5) : ct (n + 2) 696 [.int (p : Nat), .int (q : Nat)] = some (.list ((crossP p q).map pT)) := by
  have key : ∀ p q : Fin 6, (∀ n, ct (n + 2) 696 [.int (p.1 : Nat), .int (q.1 : Nat)] = some (.list ((crossP p.1 q.1).map pT))) := by
    intro p q n
    have hp : p.1 = 0 ∨ p.1 = 1 ∨ p.1 = 2 ∨ p.1 = 3 ∨ p.1 = 4 ∨ p.1 = 5 := by have := p.2; omega
    have hq : q.1 = 0 ∨ q.1 = 1 ∨ q.1 = 2 ∨ q.1 = 3 ∨ q.1 = 4 ∨ q.1 = 5 := by have := q.2; omega
    rcases hp with h | h | h | h | h | h <;> rcases hq with h' | h' | h' | h' | h' | h' <;> (rw [h, h']; kernel_rfl)
  exact key ⟨p, by omega⟩ ⟨q, by omega⟩ n
end Mine
end
section
open PySem PySem.W PySem.Spec PySem.SeqAt
set_option tactic.hygienic false
set_option maxHeartbeats 2000000
namespace Mine
theorem r_pick_colK (n : Nat) (k : T) (hk : ct (n + 1) 641 [k] = some .none) (A : List T) (P : List (Option Nat × Option Nat)) (pr : Option Nat × Option Nat → Option Nat) (hb : ∀ p ∈ P, ∀ i, pr p = some i → i < A.length) (hA : A.length ≤ 100) (hP : P.length ≤ 100) :
    ct (n + 2) 648 [vecN k (.list A), .list (P.map fun p => oi (pr p))] = some (vecN k (.list (P.map fun p => pk A (pr p)))) := by
  have := r_pick n k hk A (P.map pr) (fun i hi => by
    refine xa_1_2 (List.mem_map.mp hi) fun p hp q => ?_
    exact hb p hp i q) hA (by rw [List.length_map]; exact hP)
  rw [List.map_map, List.map_map] at this
  exact this
theorem mf_tailN (n : Nat) (k0 k1 k2 k3 L R : T) (A0 A1 B0 B1 : List T) (P : List (Option Nat × Option Nat)) (nL nR o1 o2 : List T) (x y : T) (s0 s1 : T) (ord : T) (v10 v11 v13 v14 : LV)
    (h0 : ct (n + 5) 641 [k0] = some .none) (h1 : ct (n + 5) 641 [k1] = some .none) (h2 : ct (n + 5) 641 [k2] = some .none) (h3 : ct (n + 5) 641 [k3] = some .none)
    (lL : tattr L "items" = some (.list [vecN k0 (.list A0), vecN k1 (.list A1)])) (lR : tattr R "items" = some (.list [vecN k2 (.list B0), vecN k3 (.list B1)]))
    (m1 : ct (n + 6) 627 [L] = some (.list nL)) (m2 : ct (n + 6) 627 [R] = some (.list nR)) (hnL : nL.length = 2) (hnR : nR.length = 2)
    (p1 : ct (n + 6) 717 [.list nL, .list nR, .list [], s0] = some (.list o1)) (p2 : ct (n + 6) 717 [.list nR, .list nL, .list [], s1] = some (.list o2)) (ho1 : o1.length ≤ 5) (ho2 : o2.length ≤ 5)
    (hA0 : A0.length ≤ 100) (hA1 : A1.length ≤ 100) (hB0 : B0.length ≤ 100) (hB1 : B1.length ≤ 100) (hP : P.length ≤ 100) (bA0 : ∀ p ∈ P, ∀ i, p.1 = some i → i < A0.length) (bA1 : ∀ p ∈ P, ∀ i, p.1 = some i → i < A1.length)
    (bB0 : ∀ p ∈ P, ∀ i, p.2 = some i → i < B0.length) (bB1 : ∀ p ∈ P, ∀ i, p.2 = some i → i < B1.length) :
    exs (ct (n + 6)) (f_merge_frames.ms.drop 6) [.frz L, .frz R, .frz (.list []), .frz x, .frz y, .frz (.list [s0, s1]), .frz ord, .frz (.list []), .frz (.list []), .frz (.list (P.map pT)), v10, v11, .own [], v13, v14, .undef, .undef, .undef, .undef]
      = some (.ret (fr [vecN k0 (.list (P.map fun p => pk A0 p.1)), vecN k1 (.list (P.map fun p => pk A1 p.1)), vecN k2 (.list (P.map fun p => pk B0 p.2)), vecN k3 (.list (P.map fun p => pk B1 p.2))] (o1 ++ o2) (rowsT P.length))) := by
  have q0 := r_pick_colK (n + 4) k0 h0 A0 P (fun p => p.1) bA0 hA0 hP
  have q1 := r_pick_colK (n + 4) k1 h1 A1 P (fun p => p.1) bA1 hA1 hP
  have q2 := r_pick_colK (n + 4) k2 h2 B0 P (fun p => p.2) bB0 hB0 hP
  have q3 := r_pick_colK (n + 4) k3 h3 B1 P (fun p => p.2) bB1 hB1 hP
  refine st_asg (t := .list nL) (ev_call (ts := [L]) rfl m1) (st_asg (t := .list nR) (ev_call (ts := [R]) rfl m2) ?_)
  have lenL : tcall .len [.list nL] = some (.int 2) := by rw [len_list _ (by omega), hnL]; rfl
  have lenR : tcall .len [.list nR] = some (.int 2) := by rw [len_list _ (by omega), hnR]; rfl
  have rg : tcall .range [.int 2] = some (.rng 0 2 1) := by kernel_rfl
  have it : iterT (.rng 0 2 1) = some [.int 0, .int 1] := by kernel_rfl
  generalize hC0 : vecN k0 (.list (P.map fun p => pk A0 p.1)) = C0 at q0 ⊢
  generalize hC1 : vecN k1 (.list (P.map fun p => pk A1 p.1)) = C1 at q1 ⊢
  generalize hC2 : vecN k2 (.list (P.map fun p => pk B0 p.2)) = C2 at q2 ⊢
  generalize hC3 : vecN k3 (.list (P.map fun p => pk B1 p.2)) = C3 at q3 ⊢
  have hz : ∀ (σ : List LV), σ[9]? = some (.frz (.list (P.map pT))) → σ.length = 19 → ∀ r, ev (ct (n + 6)) r σ (.comp (.idx (.var 19) (.int 0)) (.var 9) none) = some (.list (P.map fun p => oi p.1)) := fun σ h9 hl r =>
    ev_comp (u := .list (P.map pT)) (by show (match σ[9]? with | some (.frz t) => some t | some (.own l) => if true then some (.list l) else none | some (.lock l) => if true then some (.list l) else none | _ => none) = _; rw [h9]) (if_pos (by rw [List.length_map]; exact le_lim (by omega))) (comp_mapP fun p hp => by
      refine ev_idx (o := pT p) (u := .int 0) ?_ rfl rfl
      show (match (σ ++ [LV.frz (pT p)])[19]? with | some (.frz t) => some t | some (.own l) => if true then some (.list l) else none | some (.lock l) => if true then some (.list l) else none | _ => none) = _
      rw [List.getElem?_append_right (by omega), hl]; rfl)
  have ho : ∀ (σ : List LV), σ[9]? = some (.frz (.list (P.map pT))) → σ.length = 19 → ∀ r, ev (ct (n + 6)) r σ (.comp (.idx (.var 19) (.int 1)) (.var 9) none) = some (.list (P.map fun p => oi p.2)) := fun σ h9 hl r =>
    ev_comp (u := .list (P.map pT)) (by show (match σ[9]? with | some (.frz t) => some t | some (.own l) => if true then some (.list l) else none | some (.lock l) => if true then some (.list l) else none | _ => none) = _; rw [h9]) (if_pos (by rw [List.length_map]; exact le_lim (by omega))) (comp_mapP fun p hp => by
      refine ev_idx (o := pT p) (u := .int 1) ?_ rfl rfl
      show (match (σ ++ [LV.frz (pT p)])[19]? with | some (.frz t) => some t | some (.own l) => if true then some (.list l) else none | some (.lock l) => if true then some (.list l) else none | _ => none) = _
      rw [List.getElem?_append_right (by omega), hl]; rfl)
  have hpr : ct (n + 6) 615 [.int (P.length : Nat)] = some (rowsT P.length) := r_plain (n + 3) P.length (by omega)
  have hlen : tcall .len [.list (P.map pT)] = some (.int P.length) := by rw [len_list _ (by rw [List.length_map]; omega), List.length_map]
  generalize T.list (P.map fun p => oi p.1) = P0 at q0 q1 hz
  generalize T.list (P.map fun p => oi p.2) = P1 at q2 q3 ho
  generalize T.list (P.map pT) = PT at hz ho hlen ⊢
  refine st_for (u := .rng 0 2 1) (r := .nxt [.frz L, .frz R, .frz (.list []), .frz x, .frz y, .frz (.list [s0, s1]), .frz ord, .frz (.list []), .frz (.list []), .frz PT, v10, v11, .own [C0, C1], v13, v14, .frz (.list nL), .frz (.list nR), .frz (.int 1), .undef])
    (ev_bcall (ts := [.int 2]) (evL_cons (ev_bcall (ts := [.list nL]) rfl lenL) rfl) rg) it (run_cons (σ1 := [.frz L, .frz R, .frz (.list []), .frz x, .frz y, .frz (.list [s0, s1]), .frz ord, .frz (.list []), .frz (.list []), .frz PT, v10, v11, .own [C0], v13, v14, .frz (.list nL), .frz (.list nR), .frz (.int 0), .undef]) (st_ite (v := true) (r := .nxt _) rfl ?_ st_nil) (run_cons (st_ite (v := true) (r := .nxt _) rfl ?_ st_nil) rfl)) ?_
  · exact st_app (t := C0) rfl (ev_call (ts := [vecN k0 (.list A0), P0]) (evL_cons (ev_idx (o := .list [vecN k0 (.list A0), vecN k1 (.list A1)]) (u := .int 0) (ev_attr (o := L) rfl lL) rfl rfl) (evL_cons (hz _ rfl rfl _) rfl)) q0) (show 0 < lim by decide) st_nil
  · exact st_app (t := C1) rfl (ev_call (ts := [vecN k1 (.list A1), P0]) (evL_cons (ev_idx (o := .list [vecN k0 (.list A0), vecN k1 (.list A1)]) (u := .int 1) (ev_attr (o := L) rfl lL) rfl rfl) (evL_cons (hz _ rfl rfl _) rfl)) q1) (show 1 < lim by decide) st_nil
  refine st_for (u := .rng 0 2 1) (r := .nxt [.frz L, .frz R, .frz (.list []), .frz x, .frz y, .frz (.list [s0, s1]), .frz ord, .frz (.list []), .frz (.list []), .frz PT, v10, v11, .own [C0, C1, C2, C3], v13, v14, .frz (.list nL), .frz (.list nR), .frz (.int 1), .undef])
    (ev_bcall (ts := [.int 2]) (evL_cons (ev_bcall (ts := [.list nR]) rfl lenR) rfl) rg) it (run_cons (σ1 := [.frz L, .frz R, .frz (.list []), .frz x, .frz y, .frz (.list [s0, s1]), .frz ord, .frz (.list []), .frz (.list []), .frz PT, v10, v11, .own [C0, C1, C2], v13, v14, .frz (.list nL), .frz (.list nR), .frz (.int 0), .undef]) (st_ite (v := true) (r := .nxt _) rfl ?_ st_nil) (run_cons (st_ite (v := true) (r := .nxt _) rfl ?_ st_nil) rfl)) ?_
  · exact st_app (t := C2) rfl (ev_call (ts := [vecN k2 (.list B0), P1]) (evL_cons (ev_idx (o := .list [vecN k2 (.list B0), vecN k3 (.list B1)]) (u := .int 0) (ev_attr (o := R) rfl lR) rfl rfl) (evL_cons (ho _ rfl rfl _) rfl)) q2) (show 2 < lim by decide) st_nil
  · exact st_app (t := C3) rfl (ev_call (ts := [vecN k3 (.list B1), P1]) (evL_cons (ev_idx (o := .list [vecN k2 (.list B0), vecN k3 (.list B1)]) (u := .int 1) (ev_attr (o := R) rfl lR) rfl rfl) (evL_cons (ho _ rfl rfl _) rfl)) q3) (show 3 < lim by decide) st_nil
  refine st_frz rfl rfl ?_
  refine st_asg (t := .list o1) (ev_bin (x := .list []) (y := .list o1) rfl (ev_call (ts := [.list nL, .list nR, .list [], s0]) rfl p1) (tbin_add [] o1 (by simp only [List.length_nil]; omega))) ?_
  refine st_asg (t := .list (o1 ++ o2)) (ev_bin (x := .list o1) (y := .list o2) rfl (ev_call (ts := [.list nR, .list nL, .list [], s1]) rfl p2) (tbin_add _ _ (by omega))) ?_
  refine st_ret (ev_call (ts := [.list [C0, C1, C2, C3], .list (o1 ++ o2), rowsT P.length]) (evL_cons rfl (evL_cons rfl (evL_cons (ev_call (ts := [.int P.length]) (evL_cons (ev_bcall (ts := [PT]) rfl hlen) rfl) hpr) rfl))) ?_)
  refine r_new_frame (n + 3) _ _ _ (by show 4 ≤ 100; decide) (by rw [List.length_append]; omega) fun t ht => ?_
  simp only [List.mem_cons, List.not_mem_nil, or_false] at ht
  rcases ht with rfl | rfl | rfl | rfl
  · rw [← hC0]; trivial
  · rw [← hC1]; trivial
  · rw [← hC2]; trivial
  · rw [← hC3]; trivial
theorem cross_len {p q : Nat} (hp : p ≤ 5) (hq : q ≤ 5) : (crossP p q).length ≤ 25 := by
  unfold crossP
  have := flat_le (l := List.range q) (g := fun j => (List.range p).map fun i => (some i, some j)) (B := 5) fun x _ => by rw [List.length_map, List.length_range]; exact hp
  rw [List.length_range] at this
  omega
theorem cross_in {a b : Nat} : ∀ p ∈ crossP a b, ∃ i j, p = (some i, some j) ∧ i < a ∧ j < b := fun p hp => by
  refine xa_1_2 (List.mem_flatMap.mp hp) fun j hj hp => ?_
  refine xa_1_2 (List.mem_map.mp hp) fun i hi rq0 => ?_
  subst rq0
  exact ⟨i, j, rfl, List.mem_range.mp hi, List.mem_range.mp hj⟩
theorem r_merge_nil (n : Nat) (sp : Bool) (a b : List Nat) (A B : List T) (hL hR s0 s1 : Str) (o1 o2 : List T) (hla : a.length ≤ 5) (hlb : b.length ≤ 5) (hA : A.length = a.length) (hB : B.length = b.length)
    (vL : hL = "v" ∨ hL = "w") (vR : hR = "v" ∨ hR = "w") (p1 : ct (n + 6) 717 [.list [.str "k", .str hL], .list [.str "k", .str hR], .list [], .str s0] = some (.list o1)) (p2 : ct (n + 6) 717 [.list [.str "k", .str hR], .list [.str "k", .str hL], .list [], .str s1] = some (.list o2))
    (ho1 : o1.length ≤ 5) (ho2 : o2.length ≤ 5) :
    ct (n + 7) 735 [kfr sp a A hL, kfr sp b B hR, .list [], .bool false, .bool false, .list [.str s0, .str s1]] =
      some (fr [vecN (kd sp) (.list ((crossP a.length b.length).map fun p => pk (a.map (kv sp)) p.1)), icol ((crossP a.length b.length).map fun p => pk A p.1), vecN (kd sp) (.list ((crossP a.length b.length).map fun p => pk (b.map (kv sp)) p.2)), icol ((crossP a.length b.length).map fun p => pk B p.2)] (o1 ++ o2) (rowsT (crossP a.length b.length).length)) := by
  have c1 := r_check_nil (n + 1) [col sp a, icol A] (rowsT a.length) hL vL
  have c2 := r_check_nil (n + 1) [col sp b, icol B] (rowsT b.length) hR vR
  have f1 := r_frame_rows (n + 5) [col sp a, icol A] [.str "k", .str hL] ((rngL 1 ((a.length : Int) + 1) 1).map .int) (by rw [rows_len]; omega)
  have f2 := r_frame_rows (n + 5) [col sp b, icol B] [.str "k", .str hR] ((rngL 1 ((b.length : Int) + 1) 1).map .int) (by rw [rows_len]; omega)
  rw [rows_len] at f1 f2
  have m1 := r_column_names (n + 2) [col sp a, icol A] ["k", hL] (rowsT a.length) (by show 2 ≤ 1000; decide)
  have m2 := r_column_names (n + 2) [col sp b, icol B] ["k", hR] (rowsT b.length) (by show 2 ≤ 1000; decide)
  have ap := r_all_pairs (n + 4) a.length b.length hla hlb
  have hlen := cross_len hla hlb
  have hin := cross_in (a := a.length) (b := b.length)
  generalize crossP a.length b.length = P at ap hlen hin ⊢
  have tl := fun v10 v11 v13 v14 => mf_tailN n (kd sp) (.str "integer") (kd sp) (.str "integer") (kfr sp a A hL) (kfr sp b B hR) (a.map (kv sp)) A (b.map (kv sp)) B P [.str "k", .str hL] [.str "k", .str hR] o1 o2 (.bool false) (.bool false) (.str s0) (.str s1) (.bool true) v10 v11 v13 v14
    (r_lacking (n + 4) sp) (by kernel_rfl) (r_lacking (n + 4) sp) (by kernel_rfl) rfl rfl m1 m2 rfl rfl p1 p2 ho1 ho2 (by rw [List.length_map]; omega) (by omega) (by rw [List.length_map]; omega) (by omega) (by omega)
    (fun p hp i hi => by obtain ⟨i', j', rfl, h1, h2⟩ := hin p hp; (refine some_el hi fun qq => ?_; subst qq; clear hi); rw [List.length_map]; exact h1)
    (fun p hp i hi => by obtain ⟨i', j', rfl, h1, h2⟩ := hin p hp; (refine some_el hi fun qq => ?_; subst qq; clear hi); rw [hA]; exact h1)
    (fun p hp i hi => by obtain ⟨i', j', rfl, h1, h2⟩ := hin p hp; (refine some_el hi fun qq => ?_; subst qq; clear hi); rw [List.length_map]; exact h2)
    (fun p hp i hi => by obtain ⟨i', j', rfl, h1, h2⟩ := hin p hp; (refine some_el hi fun qq => ?_; subst qq; clear hi); rw [hB]; exact h2)
  have fL : kfr sp a A hL = fr [col sp a, icol A] [.str "k", .str hL] (rowsT a.length) := rfl
  have fR : kfr sp b B hR = fr [col sp b, icol B] [.str "k", .str hR] (rowsT b.length) := rfl
  rw [← fL] at c1 f1
  rw [← fR] at c2 f2
  clear m1 m2 fL fR
  generalize kfr sp a A hL = L at c1 f1 tl ⊢
  generalize kfr sp b B hR = R at c2 f2 tl ⊢
  refine ct_ofD f_merge_frames.fe (n + 6) (as := [L, R, .list [], .bool false, .bool false, .list [.str s0, .str s1], .bool true]) (by kernel_rfl) rfl rfl rfl ?_
  refine st_asg (t := .list []) (ev_call (ts := [L, .list []]) rfl c1) (st_asg (t := .list []) (ev_call (ts := [R, .list []]) rfl c2) ?_)
  refine st_ite (v := true) (r := .nxt _) rfl (st_asg (t := .list (P.map pT)) (ev_call (ts := [.int a.length, .int b.length]) (evL_cons (ev_call (ts := [L]) rfl f1) (evL_cons (ev_call (ts := [R]) rfl f2) rfl)) ap) st_nil) ?_
  refine st_asgF (l := []) rfl (st_for (u := .rng 0 0 1) (items := []) (r := .nxt _) rfl (by kernel_rfl) rfl (st_ite (v := false) (r := .nxt _) rfl st_nil ?_))
  exact tl _ _ _ _
end Mine
end
section
open PySem PySem.W PySem.Spec PySem.SeqAt
set_option tactic.hygienic false
set_option maxHeartbeats 2000000
namespace Mine
noncomputable def swapP (p : Option Nat × Option Nat) : Option Nat × Option Nat := (p.2, p.1)
theorem flat_perm_app {α β : Type} (f g : α → List β) : ∀ l : List α, (l.flatMap fun x => f x ++ g x).Perm (l.flatMap f ++ l.flatMap g)
  | [] => .refl _
  | x :: l => by
    rw [List.flatMap_cons, List.flatMap_cons, List.flatMap_cons, List.append_assoc, List.append_assoc]
    refine List.Perm.append_left _ ?_
    refine ((flat_perm_app f g l).append_left (g x)).trans ?_
    rw [← List.append_assoc, ← List.append_assoc]
    exact List.perm_append_comm.append_right _
theorem flat_nil {α β : Type} : ∀ l : List α, (l.flatMap fun _ => ([] : List β)) = []
  | [] => rfl
  | x :: l => by rw [List.flatMap_cons, flat_nil l]; rfl
theorem flat_swap {α β γ : Type} (f : α → β → List γ) (l2 : List β) : ∀ l1 : List α, (l1.flatMap fun i => l2.flatMap fun j => f i j).Perm (l2.flatMap fun j => l1.flatMap fun i => f i j)
  | [] => by
    show List.Perm [] (l2.flatMap fun _ => [])
    rw [flat_nil]
  | x :: l1 => by
    rw [List.flatMap_cons]
    refine ((flat_swap f l2 l1).append_left _).trans ?_
    exact (flat_perm_app (fun j => f x j) (fun j => l1.flatMap fun i => f i j) l2).symm
theorem filter_flat {α β : Type} (p : α → Bool) (g : α → β) : ∀ l : List α, (l.filter p).map g = l.flatMap fun j => if p j then [g j] else []
  | [] => rfl
  | x :: l => by
    rw [List.flatMap_cons, ← filter_flat p g l]
    cases h : p x with
    | true => rw [List.filter_cons_of_pos h, List.map_cons]; rfl
    | false => rw [List.filter_cons_of_neg (by rw [h]; exact Bool.false_ne_true)]; rfl
theorem flat_congr {α β : Type} {f g : α → List β} : ∀ {l : List α}, (∀ x ∈ l, f x = g x) → l.flatMap f = l.flatMap g
  | [], _ => rfl
  | x :: l, h => by rw [List.flatMap_cons, List.flatMap_cons, h x (.head _), flat_congr fun y hy => h y (.tail _ hy)]
theorem matched_swap (a b : List Nat) : (matchedP a b).Perm ((matchedP b a).map swapP) := by
  have key : ∀ a b : List Nat, ∀ (k : Nat → Nat → Option Nat × Option Nat), ((List.range a.length).flatMap fun i => (posn b (a.getD i 4) b.length).map fun j => k i j) =
      (List.range a.length).flatMap fun i => (List.range b.length).flatMap fun j => if a[i]? == b[j]? then [k i j] else [] := by
    intro a b k
    refine flat_congr fun i hi => ?_
    have hi := List.mem_range.mp hi
    unfold posn
    rw [filter_flat]
    refine flat_congr fun j hj => ?_
    have hj := List.mem_range.mp hj
    have e1 : a[i]? = some (a.getD i 4) := by simp [List.getD, hi]
    rw [e1, show (b[j]? == some (a.getD i 4)) = (some (a.getD i 4) == b[j]?) from Bool.beq_comm]
  have h1 := key a b fun i j => (some i, some j)
  have h2 := key b a fun j i => (some i, some j)
  have h3 : (matchedP b a).map swapP = (List.range b.length).flatMap fun i => (posn a (b.getD i 4) a.length).map fun j => (some j, some i) := by
    unfold matchedP
    rw [List.map_flatMap]
    refine flat_congr fun i _ => ?_
    rw [List.map_map]; rfl
  rw [h3, h2]
  unfold matchedP
  rw [h1]
  refine (flat_swap _ _ _).trans (.of_eq ?_)
  refine flat_congr fun j _ => flat_congr fun i _ => ?_
  rw [show (b[j]? == a[i]?) = (a[i]? == b[j]?) from Bool.beq_comm]
theorem pairs_swap (a b : List Nat) (x y : Bool) : (pairsP a b x y).Perm ((pairsP b a y x).map swapP) := by
  unfold pairsP
  rw [List.map_append, List.map_append, List.append_assoc, List.append_assoc]
  refine (matched_swap a b).append ?_
  refine List.perm_append_comm.trans (.of_eq ?_)
  congr 1
  · cases y with
    | true => rw [if_pos rfl, if_pos rfl, List.map_map]; rfl
    | false => rfl
  · cases x with
    | true => rw [if_pos rfl, if_pos rfl, List.map_map]; rfl
    | false => rfl
noncomputable def eqP (a b : List Nat) (p : Option Nat × Option Nat) : Prop := figP b a (swapP p) = figP a b p
theorem pairs_eq (a b : List Nat) (x y : Bool) : ∀ p ∈ pairsP a b x y, eqP a b p := by
  intro p hp
  unfold pairsP at hp
  rcases List.mem_append.mp hp with hp | hp
  · rcases List.mem_append.mp hp with hp | hp
    · obtain ⟨i, hi, hp⟩ := List.mem_flatMap.mp hp
      obtain ⟨j, hj, rfl⟩ := List.mem_map.mp hp
      have := (List.mem_filter.mp hj).2
      have h : b[j]? = some (a.getD i 4) := by simpa using this
      show b.getD j 4 = a.getD i 4
      rw [List.getD, h]; rfl
    · cases x with
      | true =>
        rw [if_pos rfl] at hp
        obtain ⟨i, hi, rfl⟩ := List.mem_map.mp hp
        rfl
      | false => cases hp
  · cases y with
    | true =>
      rw [if_pos rfl] at hp
      obtain ⟨j, hj, rfl⟩ := List.mem_map.mp hp
      rfl
    | false => cases hp
theorem posn_count (b : List Nat) (f : Nat) : (posn b f b.length).length = b.count f := by
  unfold posn
  rw [← List.countP_eq_length_filter]
  have e : (List.range b.length).map (fun j => b[j]?) = b.map some := by
    refine List.ext_getElem (by simp) fun i h1 h2 => ?_
    simp at h1 ⊢
  have := congrArg (List.countP fun x => x == some f) e
  rw [List.countP_map, List.countP_map] at this
  show List.countP ((fun x => x == some f) ∘ fun j => b[j]?) (List.range b.length) = _
  rw [this, List.count_eq_countP]
  refine List.countP_congr fun x _ => ?_
  simp
theorem matched_count (a b : List Nat) : (matchedP a b).length = (a.map fun f => b.count f).sum := by
  unfold matchedP
  rw [List.length_flatMap]
  have e : (List.range a.length).map (fun i => ((posn b (a.getD i 4) b.length).map fun j => ((some i, some j) : Option Nat × Option Nat)).length) = a.map fun f => b.count f := by
    rw [← range_getD a 4 fun f => b.count f]
    refine List.map_congr_left fun i _ => ?_
    rw [List.length_map, posn_count]
  rw [e]
theorem lone_count (a b : List Nat) : (loneP a b).length = (a.filter fun f => !b.contains f).length := by
  unfold loneP
  rw [← List.countP_eq_length_filter, ← List.countP_eq_length_filter]
  have e := range_getD a 4 fun f => f
  rw [List.map_id'] at e
  have := congrArg (List.countP fun f => !b.contains f) e
  rw [List.countP_map] at this
  exact this
theorem pairs_length (a b : List Nat) (x y : Bool) : (pairsP a b x y).length = (a.map fun f => b.count f).sum + (if x then (a.filter fun f => !b.contains f).length else 0) + (if y then (b.filter fun f => !a.contains f).length else 0) := by
  unfold pairsP
  rw [List.length_append, List.length_append, matched_count, ← lone_count, ← lone_count]
  cases x <;> cases y <;> simp
theorem inner_sub (a b : List Nat) (x y : Bool) : ∀ p ∈ pairsP a b false false, p ∈ pairsP a b x y := by
  intro p hp
  unfold pairsP at hp ⊢
  simp at hp
  exact List.mem_append.mpr (.inl (List.mem_append.mpr (.inl hp)))
theorem na_last (sp : Bool) : ∀ l : List Nat, small l → l.Pairwise (fun f g => rank sp f ≤ rank sp g) → l = l.filter (fun f => decide (f < 4)) ++ List.replicate (l.length - (l.filter fun f => decide (f < 4)).length) 4
  | [], _, _ => rfl
  | f :: l, hs, hp => by
    have h1 := List.pairwise_cons.mp hp
    have ih := na_last sp l (fun g hg => hs g (.tail _ hg)) h1.2
    have hf := hs f (.head _)
    by_cases h : f < 4
    · rw [List.filter_cons_of_pos (by simpa using h), List.length_cons, List.length_cons, List.cons_append, Nat.add_sub_add_right, ← ih]
    · have hf4 : f = 4 := by omega
      subst hf4
      have hall : ∀ g ∈ l, g = 4 := fun g hg => by
        have h2 := h1.1 g hg
        have h3 := hs g (.tail _ hg)
        rcases five h3 with rfl | rfl | rfl | rfl | rfl <;> cases sp <;> simp [rank] at h2 ⊢
      have hfl : (4 :: l).filter (fun f => decide (f < 4)) = [] := List.filter_eq_nil_iff.mpr fun g hg => by
        rcases List.mem_cons.mp hg with rfl | hg
        · simp
        · rw [hall g hg]; simp
      rw [hfl, List.nil_append, List.length_nil, Nat.sub_zero, List.length_cons, List.replicate_succ]
      congr 1
      exact List.eq_replicate_of_mem hall
end Mine
end
section
open PySem PySem.W PySem.Spec PySem.SeqAt
set_option tactic.hygienic false
set_option maxHeartbeats 2000000
namespace Mine
section
variable {c : Addr → List T → Option T} {σ : List LV}
theorem evB_two {op a b} : evB c σ op [a, b] = (do
    match op, ← asB (← ev c false σ a) with
    | .And, false => pure false
    | .Or, true => pure true
    | _, _ => evB c σ op [b]) := rfl
theorem ev_and2 {r a b v} (h1 : ev c false σ a = some (.bool true)) (h2 : ev c false σ b = some (.bool v)) : ev c r σ (.bop .And [a, b]) = some (.bool v) := by
  show (do pure (T.bool (← evB c σ .And [a, b]))) = _
  rw [evB_two, h1]
  show (do pure (T.bool (← (do asB (← ev c false σ b) : Option Bool)))) = _
  rw [h2]; rfl
theorem ev_or2 {r a b v} (h1 : ev c false σ a = some (.bool false)) (h2 : ev c false σ b = some (.bool v)) : ev c r σ (.bop .Or [a, b]) = some (.bool v) := by
  show (do pure (T.bool (← evB c σ .Or [a, b]))) = _
  rw [evB_two, h1]
  show (do pure (T.bool (← (do asB (← ev c false σ b) : Option Bool)))) = _
  rw [h2]; rfl
theorem ev_not {r a v} (h1 : ev c false σ a = some (.bool v)) : ev c r σ (.not a) = some (.bool !v) := by
  show (do pure (T.bool (!(← asB (← ev c false σ a))))) = _
  rw [h1]; rfl
end
theorem teq_kv (sp : Bool) {f g : Nat} (hf : f < 5) (hg : g < 5) : teq (kv sp g) (kv sp f) = (g == f) := by
  rcases five hf with rfl | rfl | rfl | rfl | rfl <;> rcases five hg with rfl | rfl | rfl | rfl | rfl <;> cases sp <;> kernel_rfl
theorem plain_kv (sp : Bool) (n f : Nat) (hf : f < 5) : plainT n (kv sp f) = true := by
  rcases five hf with rfl | rfl | rfl | rfl | rfl <;> cases sp <;> kernel_rfl
theorem plainL_map {k : Nat → T} {n : Nat} : ∀ {l : List Nat}, (∀ f ∈ l, plainT n (k f) = true) → plainL n (l.map k) = true
  | [], _ => by simp [plainL]
  | f :: l, h => by rw [List.map_cons, plainL, h f (.head _), plainL_map fun g hg => h g (.tail _ hg)]; rfl
theorem plainL_all {n : Nat} : ∀ {l : List T}, (∀ t ∈ l, plainT n t = true) → plainL n l = true
  | [], _ => by simp [plainL]
  | f :: l, h => by rw [plainL, h f (.head _), plainL_all fun g hg => h g (.tail _ hg)]; rfl
theorem plain_list {n : Nat} {l : List T} (h : plainL n l = true) : plainT (n + 1) (.list l) = true := by rw [plainT]; exact h
theorem any_kv (sp : Bool) {f : Nat} (hf : f < 5) : ∀ {b : List Nat}, small b → ((b.map (kv sp)).any fun y => teq y (kv sp f)) = b.contains f
  | [], _ => rfl
  | g :: b, hb => by
    rw [List.map_cons, List.any_cons, List.contains_cons, any_kv sp hf fun x hx => hb x (.tail _ hx), teq_kv sp hf (hb g (.head _)), Bool.beq_comm]
theorem notin_kv (sp : Bool) {f : Nat} {b : List Nat} (hf : f < 5) (hb : small b) : tcmp .NotIn (kv sp f) (.list (b.map (kv sp))) = some (!b.contains f) := by
  show (if plainT 4 (kv sp f) && plainL 4 (b.map (kv sp)) then some ((b.map (kv sp)).any fun y => teq y (kv sp f)) else none).map (!·) = _
  rw [if_pos (by rw [plain_kv sp 4 f hf, plainL_map fun g hg => plain_kv sp 4 g (hb g hg)]; rfl), any_kv sp hf hb]; rfl
theorem countP_kv (sp : Bool) {f : Nat} (hf : f < 5) : ∀ {b : List Nat}, small b → ((b.map (kv sp)).countP fun y => teq y (kv sp f)) = b.count f
  | [], _ => rfl
  | g :: b, hb => by
    rw [List.map_cons, List.countP_cons, List.count_cons, countP_kv sp hf fun x hx => hb x (.tail _ hx), teq_kv sp hf (hb g (.head _))]
theorem count_kv (sp : Bool) {f : Nat} {b : List Nat} (hf : f < 5) (hb : small b) : tmeth .count (.list (b.map (kv sp))) [kv sp f] = some (.int (b.count f : Nat)) := by
  show (if plainL 0 (b.map (kv sp)) && plainT 0 (kv sp f) then some (T.int ((b.map (kv sp)).countP fun y => teq y (kv sp f) : Nat)) else none) = _
  rw [if_pos (by rw [plain_kv sp 0 f hf, plainL_map fun g hg => plain_kv sp 0 g (hb g hg)]; rfl), countP_kv sp hf hb]
mutual
theorem teq_refl : ∀ (n : Nat) (t : T), plainT n t = true → PyData.eqv (pd t) (pd t) = true
  | _, .none, _ => by simp [pd, PyData.eqv]
  | _, .bool b, _ => by simp [pd, PyData.eqv]
  | _, .int i, _ => by simp [pd, PyData.eqv]
  | _, .str s, _ => by simp [pd, PyData.eqv]
  | 0, .tup _, h => by simp [plainT] at h
  | 0, .list _, h => by simp [plainT] at h
  | n + 1, .tup l, h => by rw [pd, PyData.eqv]; exact teqL_refl n l (by simpa [plainT] using h)
  | n + 1, .list l, h => by rw [pd, PyData.eqv]; exact teqL_refl n l (by simpa [plainT] using h)
  | _, .dict _ _, h => by simp [plainT] at h
  | _, .vec _ _ _, h => by simp [plainT] at h
  | _, .rng _ _ _, h => by simp [plainT] at h
theorem teqL_refl : ∀ (n : Nat) (l : List T), plainL n l = true → PyData.eqvAll (pdL l) (pdL l) = true
  | _, [], _ => by simp [pdL, PyData.eqvAll]
  | n, t :: l, h => by
    rw [plainL, Bool.and_eq_true] at h
    rw [pdL, PyData.eqvAll, teq_refl n t h.1, teqL_refl n l h.2]; rfl
end
theorem eq_list {l : List T} (h : plainL 3 l = true) : tcmp .Eq (.list l) (.list l) = some true := by
  have h4 := plain_list h
  show (if plainT 4 (.list l) && plainT 4 (.list l) then some (teq (.list l) (.list l)) else none) = _
  rw [if_pos (by rw [h4]; rfl)]
  exact congrArg some (teq_refl 4 _ h4)
theorem ne_list {l : List T} (h : plainL 3 l = true) : tcmp .NotEq (.list l) (.list l) = some false := by
  have := eq_list h
  show (tEq (.list l) (.list l)).map (!·) = _
  rw [show tEq (.list l) (.list l) = some true from this]; rfl
theorem asStrs_map : ∀ ss : List Str, asStrs (ss.map .str) = some ss
  | [] => rfl
  | s :: ss => by rw [List.map_cons, asStrs, asStrs_map ss]; rfl
theorem asInts_map : ∀ ss : List Int, asInts (ss.map .int) = some ss
  | [] => rfl
  | s :: ss => by rw [List.map_cons, asInts, asInts_map ss]; rfl
theorem sorted_strs (ss : List Str) (h : ss.length < 64) : tcall .sorted [.list (ss.map .str)] = some (.list ((sortS ss).map .str)) := by
  show tsorted _ = _
  unfold tsorted
  rw [if_pos (by rw [List.length_map]; exact h)]
  cases ss with
  | nil => simp [asInts, sortI, sortS]
  | cons s ss =>
    have : asInts ((s :: ss).map .str) = none := rfl
    rw [this, asStrs_map]
theorem sorted_ints (ss : List Int) (h : ss.length < 64) : tcall .sorted [.list (ss.map .int)] = some (.list ((sortI ss).map .int)) := by
  show tsorted _ = _
  unfold tsorted
  rw [if_pos (by rw [List.length_map]; exact h), asInts_map]
noncomputable def kstr : Nat → Str
  | 0 => "kiwi"
  | 1 => "fig"
  | 2 => "pear"
  | _ => "date"
theorem four {f : Nat} (h : f < 4) : f = 0 ∨ f = 1 ∨ f = 2 ∨ f = 3 := by omega
theorem kv_str {f : Nat} (h : f < 4) : kv true f = .str (kstr f) := by
  rcases four h with rfl | rfl | rfl | rfl <;> rfl
theorem kv_int {f : Nat} (h : f < 4) : kv false f = .int (ki f) := by
  rcases four h with rfl | rfl | rfl | rfl <;> rfl
theorem kstr_le {f g : Nat} (hf : f < 4) (hg : g < 4) (h : rank true f ≤ rank true g) : leS (kstr f) (kstr g) = true := by
  rcases four hf with rfl | rfl | rfl | rfl <;> rcases four hg with rfl | rfl | rfl | rfl <;> first | (exact absurd h (by decide)) | kernel_rfl
theorem ki_le {f g : Nat} (hf : f < 4) (hg : g < 4) (h : rank false f ≤ rank false g) : ki f ≤ ki g := by
  rcases four hf with rfl | rfl | rfl | rfl <;> rcases four hg with rfl | rfl | rfl | rfl <;> first | decide | (exact absurd h (by decide))
theorem sorted_kv (sp : Bool) (l : List Nat) (h4 : ∀ f ∈ l, f < 4) (hp : l.Pairwise fun f g => rank sp f ≤ rank sp g) (hl : l.length < 64) : tcall .sorted [.list (l.map (kv sp))] = some (.list (l.map (kv sp))) := by
  cases sp with
  | true =>
    have e : l.map (kv true) = (l.map kstr).map .str := by
      rw [List.map_map]; exact List.map_congr_left fun f hf => kv_str (h4 f hf)
    rw [e, sorted_strs _ (by rw [List.length_map]; exact hl)]
    rw [← sortS_eq (List.Perm.refl _) (List.pairwise_map.mpr (hp.imp_of_mem fun hf hg h => kstr_le (h4 _ hf) (h4 _ hg) h))]
  | false =>
    have e : l.map (kv false) = (l.map ki).map .int := by
      rw [List.map_map]; exact List.map_congr_left fun f hf => kv_int (h4 f hf)
    rw [e, sorted_ints _ (by rw [List.length_map]; exact hl)]
    rw [← sortI_eq (List.Perm.refl _) (List.pairwise_map.mpr (hp.imp_of_mem fun hf hg h => ki_le (h4 _ hf) (h4 _ hg) h))]
theorem isnone_kv (sp : Bool) {f : Nat} (hf : f < 5) : isNoneT (kv sp f) = !decide (f < 4) := by
  rcases five hf with rfl | rfl | rfl | rfl | rfl <;> cases sp <;> rfl
theorem comp_filterN {k : Nat → T} {test : T → Option Bool} {f : T → Option T} {p : Nat → Bool} : ∀ {items : List Nat}, (∀ x ∈ items, test (k x) = some (p x) ∧ (p x = true → f (k x) = some (k x))) → compRun test f (items.map k) = some ((items.filter p).map k)
  | [], _ => rfl
  | t :: ts, h => by
    obtain ⟨h1, h2⟩ := h t (.head _)
    have ih := comp_filterN (test := test) (f := f) fun t ht => h t (.tail _ ht)
    rw [List.map_cons]
    unfold compRun
    rw [h1]
    cases hp : p t with
    | true =>
      rw [List.filter_cons_of_pos hp]
      show (do let r ← f (k t); let rs ← compRun test f (ts.map k); pure (r :: rs)) = _
      rw [h2 hp]
      show (do let rs ← compRun test f (ts.map k); pure (k t :: rs)) = _
      rw [ih]; rfl
    | false =>
      rw [List.filter_cons_of_neg (by rw [hp]; exact Bool.false_ne_true)]
      exact ih
theorem r_ascends (n : Nat) (sp : Bool) (l : List Nat) (hs : small l) (hp : l.Pairwise fun f g => rank sp f ≤ rank sp g) (hl : l.length ≤ 60) : ct (n + 1) 757 [.list (l.map (kv sp))] = some (.bool true) := by
  refine ct_of f_law_ascends.fe n (by kernel_rfl) rfl rfl rfl ?_
  have hna := na_last sp l hs hp
  have h4 : ∀ f ∈ l.filter (fun f => decide (f < 4)), f < 4 := fun f hf => by simpa using (List.mem_filter.mp hf).2
  have hle := List.length_filter_le (fun f => decide (f < 4)) l
  have hsub := List.filter_sublist (p := fun f => decide (f < 4)) (l := l)
  have hp' := hp.sublist hsub
  have hs' : small (l.filter fun f => decide (f < 4)) := fun f hf => hs f (hsub.subset hf)
  have hitems : ev (ct n) true [.frz (.list (l.map (kv sp))), .undef] (.var 0) = some (.list (l.map (kv sp))) := rfl
  have hcomp : ev (ct n) false [.frz (.list (l.map (kv sp))), .undef] (.comp (.var 2) (.var 0) (some (.cmp .IsNot (.var 2) .none))) = some (.list ((l.filter fun f => decide (f < 4)).map (kv sp))) := by
    refine ev_comp (u := .list (l.map (kv sp))) rfl (if_pos (by rw [List.length_map]; exact le_lim (by omega))) (comp_filterN fun f hf => ⟨?_, fun _ => rfl⟩)
    show some (!isNoneT (kv sp f)) = _
    rw [isnone_kv sp (hs f hf), Bool.not_not]
  generalize hF : l.filter (fun f => decide (f < 4)) = F at *
  refine st_asgF hcomp (st_frz rfl rfl (st_ret ?_))
  have e1 : ev (ct n) false [.frz (.list (l.map (kv sp))), .frz (.list (F.map (kv sp)))] (.cmp .Eq (.var 1) (.bcall .sorted [(.var 1)])) = some (.bool true) :=
    ev_cmp (x := .list (F.map (kv sp))) (y := .list (F.map (kv sp))) rfl (ev_bcall (ts := [.list (F.map (kv sp))]) rfl (sorted_kv sp F h4 hp' (by omega))) (eq_list (plainL_map fun g hg => plain_kv sp 3 g (hs' g hg)))
  have hlenF : tcall .len [.list (F.map (kv sp))] = some (.int F.length) := by rw [len_list _ (by rw [List.length_map]; omega), List.length_map]
  have hlenL : tcall .len [.list (l.map (kv sp))] = some (.int l.length) := by rw [len_list _ (by rw [List.length_map]; omega), List.length_map]
  have hslc : tslc (.list (l.map (kv sp))) (some (F.length : Int)) none = some (.list ((List.replicate (l.length - F.length) 4).map (kv sp))) := by
    show (if (l.map (kv sp)).length ≤ lim then some (T.list (tslice (l.map (kv sp)) (some (F.length : Int)) none)) else none) = _
    rw [if_pos (by rw [List.length_map]; exact le_lim (by omega))]
    have ec : clipT (some (F.length : Int)) (l.map (kv sp)).length 0 = F.length := by
      unfold clipT
      dsimp only
      rw [if_neg (by omega), List.length_map]
      show min (Int.toNat (F.length : Int)) l.length = _
      rw [Int.toNat_natCast]; omega
    have ed : clipT none (l.map (kv sp)).length (l.map (kv sp)).length = l.length := by unfold clipT; dsimp only; rw [List.length_map]
    unfold tslice
    rw [ec, ed, ← List.map_drop, List.take_of_length_le (by rw [List.length_map, List.length_drop]; omega)]
    have : l.drop F.length = List.replicate (l.length - F.length) 4 := by
      have := congrArg (List.drop F.length) hna
      rw [List.drop_left] at this
      exact this
    rw [this]
  have e2 : ev (ct n) true [.frz (.list (l.map (kv sp))), .frz (.list (F.map (kv sp)))] (.slc (.var 0) (some (.bcall .len [(.var 1)])) none) = some (.list ((List.replicate (l.length - F.length) 4).map (kv sp))) := by
    have hl1 : ev (ct n) false [.frz (.list (l.map (kv sp))), .frz (.list (F.map (kv sp)))] (.bcall .len [(.var 1)]) = some (.int F.length) := ev_bcall (ts := [.list (F.map (kv sp))]) rfl hlenF
    show (do tslc (T.list (l.map (kv sp))) (← (match ev (ct n) false [.frz (.list (l.map (kv sp))), .frz (.list (F.map (kv sp)))] (.bcall .len [(.var 1)]) with | some (.int i) => some (some i) | _ => none)) (← some none)) = _
    rw [hl1]
    exact hslc
  have e3 : ev (ct n) true [.frz (.list (l.map (kv sp))), .frz (.list (F.map (kv sp)))] (.bin .Mult (.list [.none]) (.bin .Sub (.bcall .len [(.var 0)]) (.bcall .len [(.var 1)]))) = some (.list ((List.replicate (l.length - F.length) 4).map (kv sp))) := by
    refine ev_bin (x := .list [.none]) (y := .int ((l.length : Int) - F.length)) rfl (ev_bin (x := .int l.length) (y := .int F.length) (ev_bcall (ts := [.list (l.map (kv sp))]) rfl hlenL) (ev_bcall (ts := [.list (F.map (kv sp))]) rfl hlenF) rfl) ?_
    show (if 0 ≤ (l.length : Int) - F.length ∧ (l.length : Int) - F.length ≤ 1000 then some (T.list (List.replicate ((l.length : Int) - F.length).toNat .none)) else none) = _
    rw [if_pos (by omega), List.map_replicate, show ((l.length : Int) - F.length).toNat = l.length - F.length by omega]
    cases sp <;> rfl
  have e4 : ev (ct n) false [.frz (.list (l.map (kv sp))), .frz (.list (F.map (kv sp)))] (.cmp .Eq (.slc (.var 0) (some (.bcall .len [(.var 1)])) none) (.bin .Mult (.list [.none]) (.bin .Sub (.bcall .len [(.var 0)]) (.bcall .len [(.var 1)])))) = some (.bool true) :=
    ev_cmp e2 e3 (eq_list (plainL_map fun g hg => plain_kv sp 3 g (by rw [List.eq_of_mem_replicate hg]; decide)))
  exact ev_and2 e1 e4
end Mine
end
section
open PySem PySem.W PySem.Spec PySem.SeqAt
set_option tactic.hygienic false
set_option maxHeartbeats 2000000
namespace Mine
section
variable {c : Addr → List T → Option T} {σ : List LV} {ms : List MS} {o : Out}
theorem st_forL {i j g e l r} (h0 : σ[i]? = some (.own l)) (hl : l.length ≤ lim ∧ i ≠ j ∧ i ≠ g) (h2 : runFor (fun σ t => (ev c false (σ.set j (.frz t)) e).map fun u => .nxt ((σ.set j (.frz t)).set g (.frz u))) l σ = some r) (k : (match (some r : Option Out) with | some (.nxt σ') => exs c ms σ' | r => r) = some o) :
    exs c (.forL i j g e :: ms) σ = some o := by
  show (match (do
    let l ← ownOf σ[i]?
    if l.length ≤ lim ∧ i ≠ j ∧ i ≠ g then
      runFor (fun σ t => (ev c false (σ.set j (.frz t)) e).map fun u => .nxt ((σ.set j (.frz t)).set g (.frz u))) l σ
    else none : Option Out) with | some (.nxt σ') => exs c ms σ' | r => r) = _
  rw [h0]
  show (match (if l.length ≤ lim ∧ i ≠ j ∧ i ≠ g then
      runFor (fun σ t => (ev c false (σ.set j (.frz t)) e).map fun u => .nxt ((σ.set j (.frz t)).set g (.frz u))) l σ
    else none : Option Out) with | some (.nxt σ') => exs c ms σ' | r => r) = _
  rw [if_pos hl, h2]; exact k
end
noncomputable def rng3 (x : Int) : Prop := 0 ≤ x ∧ x < 3001
theorem mod_rng (x : Int) : rng3 (x % 3001) := ⟨Int.emod_nonneg _ (by decide), Int.emod_lt_of_pos _ (by decide)⟩
theorem small_of {x : Int} (h0 : 0 ≤ x) (h : x < 100000) : smallI x = true := decide_eq_true (by omega)
theorem tslice_take (l : List T) (k : Nat) : tslice l none (some (k : Int)) = l.take k := by
  unfold tslice clipT
  dsimp only
  rw [if_neg (by omega), Int.toNat_natCast, List.drop_zero, Nat.sub_zero]
  by_cases h : k ≤ l.length
  · rw [Nat.min_eq_left h]
  · rw [Nat.min_eq_right (by omega), List.take_of_length_le (Nat.le_refl _), List.take_of_length_le (by omega)]
theorem r_stream (n : Nat) (ns : List Int) (h : ns.length ≤ 63) : ∃ rs : List Int, rs.length = 40 ∧ (∀ r ∈ rs, rng3 r) ∧ ct (n + 1) 742 [.list (ns.map .int)] = some (.list (rs.map .int)) := by
  generalize hS : T.list (ns.map .int) = S
  -- the first loop
  have hsl : ev (ct n) false [.frz S, .own [], .undef, .undef, .undef] (.slc (.var 0) none (some (.int 40))) = some (.list ((ns.take 40).map .int)) := by
    rw [← hS]
    show tslc (T.list (ns.map .int)) none (some 40) = _
    show (if (ns.map T.int).length ≤ lim then some (T.list (tslice (ns.map .int) none (some ((40 : Nat) : Int)))) else none) = _
    rw [if_pos (by rw [List.length_map]; exact le_lim (by omega)), tslice_take, List.map_take]
  have htl : (ns.take 40).length ≤ 40 := by rw [List.length_take]; omega
  generalize ns.take 40 = ms at hsl htl
  obtain ⟨σ1, g1, u, g2⟩ := for_appL (step := fun σ t => exs (ct n) [.app 1 (.bin .Mod (.bcall .int [(.var 2)]) (.int 3001))] (σ.set 2 (.frz t)))
    (R := fun acc σ => ∃ u, σ = [.frz S, .own acc, u, .undef, .undef]) (g := fun t => match t with | .int i => [.int (i % 3001)] | _ => []) (items := ms.map .int) (acc := []) (σ := [.frz S, .own [], .undef, .undef, .undef]) ⟨_, rfl⟩ (fun acc σ t ht hla ⟨u, hσ⟩ => by
      subst hσ
      refine xa_1_2 (List.mem_map.mp ht) fun i hi rq0 => ?_
      subst rq0
      exact ⟨_, st_app (t := .int (i % 3001)) rfl rfl (lt_lim (by change acc.length + 1 ≤ 999 at hla; omega)) st_nil, _, rfl⟩) (by
      have := flat_le (l := ms.map T.int) (g := fun t => match t with | .int i => [T.int (i % 3001)] | _ => []) (B := 1) fun x hx => by split <;> simp
      rw [List.length_map] at this
      simp only [List.length_nil]; omega)
  have e1 : [] ++ (ms.map T.int).flatMap (fun t => match t with | .int i => [T.int (i % 3001)] | _ => []) = (ms.map fun i => i % 3001).map .int := by
    rw [List.nil_append]
    clear g1 g2 hsl htl
    induction ms with
    | nil => rfl
    | cons a ns ih => rw [List.map_cons, List.flatMap_cons, List.map_cons, List.map_cons, ih]; rfl
  rw [e1] at g2
  subst g2
  have hr1 : ∀ r ∈ ms.map (fun i => i % 3001), rng3 r := fun r hr => by
    refine xa_1_2 (List.mem_map.mp hr) fun i _ rq0 => ?_
    subst rq0
    exact mod_rng i
  have hl1 : (ms.map fun i => i % 3001).length ≤ 40 := by rw [List.length_map]; exact htl
  have hit : iterT (.list (ms.map .int)) = some (ms.map .int) := if_pos (by rw [List.length_map]; exact le_lim (by omega))
  generalize ms.map (fun i => i % 3001) = rs at g1 hr1 hl1
  -- the grain
  have hlen : ∀ rs : List Int, rs.length ≤ 1000 → tcall .len [.list (rs.map .int)] = some (.int rs.length) := fun rs h => by rw [len_list _ (by rw [List.length_map]; exact h), List.length_map]
  obtain ⟨σ2, k1, k2⟩ := for_inv (step := fun σ t => (ev (ct n) false (σ.set 4 (.frz t)) (.bin .Mod (.bin .Add (.bin .Mult (.var 3) (.int 3)) (.var 4)) (.int 3001))).map fun u => .nxt ((σ.set 4 (.frz t)).set 3 (.frz u)))
    (R := fun _ σ => ∃ gr v, 0 ≤ gr ∧ gr < 3001 ∧ σ = [.frz S, .own (rs.map .int), u, .frz (.int gr), v]) (items := rs.map .int) (k := 0) (σ := [.frz S, .own (rs.map .int), u, .frz (.int (7 + rs.length)), .undef]) ⟨_, _, by omega, by omega, rfl⟩ (fun j σ t ht ⟨gr, v, h0, h1, hσ⟩ => by
      subst hσ
      rw [List.getElem?_map] at ht
      refine xa_1_2 (Option.map_eq_some_iff.mp ht) fun x hx rq0 => ?_
      subst rq0
      have hm : tbin .Mult (.int gr) (.int 3) = some (.int (gr * 3)) := if_pos (by rw [small_of h0 (by omega)]; rfl)
      have he : ev (ct n) false [.frz S, .own (rs.map .int), u, .frz (.int gr), .frz (.int x)] (.bin .Mod (.bin .Add (.bin .Mult (.var 3) (.int 3)) (.var 4)) (.int 3001)) = some (.int ((gr * 3 + x) % 3001)) :=
        ev_bin (x := .int (gr * 3 + x)) (y := .int 3001) (ev_bin (x := .int (gr * 3)) (y := .int x) (ev_bin (x := .int gr) (y := .int 3) rfl rfl hm) rfl rfl) rfl rfl
      refine ⟨_, ?_, (gr * 3 + x) % 3001, .frz (.int x), (mod_rng _).1, (mod_rng _).2, rfl⟩
      show (ev (ct n) false [.frz S, .own (rs.map .int), u, .frz (.int gr), .frz (.int x)] (.bin .Mod (.bin .Add (.bin .Mult (.var 3) (.int 3)) (.var 4)) (.int 3001))).map _ = _
      rw [he]; rfl)
  refine xa_2_3 (k2) fun gr v h0 h1 rq0 => ?_
  try clear k2
  subst rq0
  -- the tail
  obtain ⟨σ3, m1, rs', gr', h2, h3, rfl⟩ := whl_run (test := fun σ => do asB (← ev (ct n) false σ (.cmp .Lt (.bcall .len [(.var 1)]) (.int 40))))
    (body := exs (ct n) [.asg 3 (.bin .Mod (.bin .Add (.bin .Mult (.var 3) (.int 1201)) (.int 337)) (.int 3001)), .app 1 (.var 3)])
    (M := fun k σ => ∃ (rs : List Int) (gr : Int), 0 ≤ gr ∧ gr < 3001 ∧ rs.length ≤ 40 ∧ (∀ r ∈ rs, rng3 r) ∧ k = 40 - rs.length ∧ σ = [.frz S, .own (rs.map .int), u, .frz (.int gr), v])
    (Fin := fun σ => ∃ (rs : List Int) (gr : Int), rs.length = 40 ∧ (∀ r ∈ rs, rng3 r) ∧ σ = [.frz S, .own (rs.map .int), u, .frz (.int gr), v])
    (fun k σ ⟨rs, gr, a1, a2, a3, a4, a5, hσ⟩ => by
      subst hσ
      have t1 : (do asB (← ev (ct n) false [.frz S, .own (rs.map .int), u, .frz (.int gr), v] (.cmp .Lt (.bcall .len [(.var 1)]) (.int 40)))) = some (decide ((rs.length : Int) < 40)) := by
        rw [ev_cmp (x := .int rs.length) (y := .int 40) (ev_bcall (ts := [.list (rs.map .int)]) rfl (hlen rs (by omega))) rfl rfl]; rfl
      by_cases h40 : rs.length = 40
      · left
        exact ⟨t1.trans (by rw [decide_eq_false (by omega)]), rs, gr, h40, a4, rfl⟩
      · right
        refine ⟨t1.trans (by rw [decide_eq_true (by omega)]), ?_⟩
        have hm : tbin .Mult (.int gr) (.int 1201) = some (.int (gr * 1201)) := if_pos (by rw [small_of a1 (by omega)]; rfl)
        refine ⟨_, _, ?_, st_asg (t := .int ((gr * 1201 + 337) % 3001)) (ev_bin (x := .int (gr * 1201 + 337)) (y := .int 3001) (ev_bin (x := .int (gr * 1201)) (y := .int 337) (ev_bin (x := .int gr) (y := .int 1201) rfl rfl hm) rfl rfl) rfl rfl)
          (st_app (t := .int ((gr * 1201 + 337) % 3001)) rfl rfl (lt_lim (by rw [List.length_map]; omega)) st_nil), rs ++ [(gr * 1201 + 337) % 3001], (gr * 1201 + 337) % 3001, (mod_rng _).1, (mod_rng _).2, ?_, ?_, rfl, ?_⟩
        · rw [List.length_append, List.length_singleton]; omega
        · rw [List.length_append, List.length_singleton]; omega
        · intro r hr
          rcases List.mem_append.mp hr with hr | hr
          · exact a4 r hr
          · rw [List.mem_singleton.mp hr]; exact mod_rng _
        · rw [List.map_append]; rfl) 64 (40 - rs.length) _ (by omega) ⟨rs, gr, h0, h1, hl1, hr1, rfl, rfl⟩
  refine ⟨rs', h2, h3, ct_of f_law_stream.fe n (by kernel_rfl) rfl rfl rfl ?_⟩
  refine st_asgF (l := []) rfl (st_for hsl hit g1 (st_asg (t := .int (7 + rs.length)) (ev_bin (x := .int 7) (y := .int rs.length) rfl (ev_bcall (ts := [.list (rs.map .int)]) rfl (hlen rs (by omega))) rfl) ?_))
  exact st_forL rfl ⟨by rw [List.length_map]; exact le_lim (by omega), by decide, by decide⟩ k1 (st_whl m1 (st_frz rfl rfl (st_ret rfl)))
end Mine
end
section
open PySem PySem.W PySem.Spec PySem.SeqAt
set_option tactic.hygienic false
set_option maxHeartbeats 2000000
namespace Mine
theorem idx_ints (rs : List Int) (i : Nat) (hi : i < rs.length) (hl : rs.length ≤ 1000) : tidx (.list (rs.map .int)) (.int i) = some (.int (rs.getD i 0)) := by
  rw [idx_list _ i (by rw [List.length_map]; exact hi) (by rw [List.length_map]; exact hl)]
  simp [List.getD, hi]
theorem list_range1 (m : Nat) (h : m ≤ 900) : tcall .range [.int 1, .int ((m : Int) + 1)] = some (.rng 1 ((m : Int) + 1) 1) ∧ tcall .list [.rng 1 ((m : Int) + 1) 1] = some (.list ((rngL 1 ((m : Int) + 1) 1).map .int)) := by
  have h1 : midI 1 = true := by decide
  have h2 : midI ((m : Int) + 1) = true := decide_eq_true (by omega)
  constructor
  · show (if midI 1 && midI ((m : Int) + 1) then some (T.rng 1 ((m : Int) + 1) 1) else none) = _
    rw [h1, h2]; rfl
  · show (if midI 1 && midI ((m : Int) + 1) && (decide ((0 : Int) < 1) && decide ((1 : Int) < 1000)) && decide (rngN 1 ((m : Int) + 1) 1 ≤ lim) then some (T.list ((rngL 1 ((m : Int) + 1) 1).map T.int)) else none) = _
    have hn : rngN 1 ((m : Int) + 1) 1 ≤ lim := by
      have := rows_len m
      rw [List.length_map] at this
      unfold rngL at this
      rw [List.length_map, List.length_range] at this
      rw [this]; exact le_lim (by omega)
    rw [h1, h2, decide_eq_true hn]; rfl
theorem side_tail (c : Addr → List T → Option T) (R b h t : T) (sp : Bool) (acc : List T) (v6 v8 v9 v10 : LV) (f : Nat) (hf : f < 5) (hl : acc.length < lim) :
    exs c [.ite (.cmp .Eq (.var 7) (.int 4)) [.app 5 .none] [.ite (.var 1) [.app 5 (.idx (.list [(.str "kiwi"), (.str "fig"), (.str "pear"), (.str "date")]) (.var 7))] [.app 5 (.idx (.list [(.int 30), (.neg (.int 2)), (.int 7), (.int 100)]) (.var 7))]]]
      [.frz R, .frz (.bool sp), .frz b, .frz h, .frz t, .own acc, v6, .frz (.int (f : Nat)), v8, v9, v10] = some (.nxt [.frz R, .frz (.bool sp), .frz b, .frz h, .frz t, .own (acc ++ [kv sp f]), v6, .frz (.int (f : Nat)), v8, v9, v10]) := by
  rcases five hf with rfl | rfl | rfl | rfl | rfl <;> cases sp <;>
    first
    | exact st_ite (v := false) (r := .nxt _) rfl (st_ite (v := false) (r := .nxt _) rfl (st_app rfl rfl hl st_nil) st_nil) st_nil
    | exact st_ite (v := false) (r := .nxt _) rfl (st_ite (v := true) (r := .nxt _) rfl (st_app rfl rfl hl st_nil) st_nil) st_nil
    | exact st_ite (v := true) (r := .nxt _) rfl (st_app rfl rfl hl st_nil) st_nil
noncomputable def rowA (base : Int) (t : Nat) : List T := (List.range t).map fun i => T.int (base + (i : Nat))
theorem r_side (n : Nat) (rs : List Int) (sp : Bool) (base : Int) (hd : Str) (hl : rs.length = 10) (hr : ∀ r ∈ rs, rng3 r) :
    ∃ a : List Nat, small a ∧ a.length ≤ 5 ∧ ct (n + 4) 747 [.list (rs.map .int), .bool sp, .int base, .str hd] = some (.tup [.list (a.map (kv sp)), kfr sp a (rowA base a.length) hd]) := by
  have hg : ∀ i, i < 10 → rng3 (rs.getD i 0) := fun i hi => by
    have : rs.getD i 0 = rs[i] := by simp [List.getD, hl, hi]
    rw [this]; exact hr _ (by simp)
  have hx : ∀ i : Nat, i < 10 → tidx (.list (rs.map .int)) (.int i) = some (.int (rs.getD i 0)) := fun i hi => idx_ints rs i (by omega) (by omega)
  obtain ⟨t, ht, ht5⟩ : ∃ t : Nat, rs.getD 0 0 % 6 = (t : Int) ∧ t ≤ 5 := ⟨(rs.getD 0 0 % 6).toNat, by omega, by omega⟩
  have hfig : ∀ i, i < 5 → ∃ f : Nat, rs.getD (1 + i) 0 % 5 = (f : Int) ∧ f < 5 := fun i hi => ⟨(rs.getD (1 + i) 0 % 5).toNat, by omega, by omega⟩
  generalize hRR : T.list (rs.map .int) = RR at hx ⊢
  have hal : ((List.range t).map fun i => (rs.getD (1 + i) 0 % 5).toNat).length = t := by rw [List.length_map, List.length_range]
  have hsm : small ((List.range t).map fun i => (rs.getD (1 + i) 0 % 5).toNat) := fun f hf => by
    refine xa_1_2 (List.mem_map.mp hf) fun i hi rq0 => ?_
    subst rq0
    have := List.mem_range.mp hi
    omega
  refine ⟨(List.range t).map fun i => (rs.getD (1 + i) 0 % 5).toNat, hsm, by rw [hal]; exact ht5, ct_of f_law_side.fe (n + 3) (by kernel_rfl) rfl rfl rfl ?_⟩
  obtain ⟨q1, q2⟩ := range_T t (by omega)
  obtain ⟨σ1, g1, u, v, g2⟩ := for_appL (step := fun σ t => exs (ct (n + 3)) [.asg 7 (.bin .Mod (.idx (.var 0) (.bin .Add (.int 1) (.var 6))) (.int 5)), .ite (.cmp .Eq (.var 7) (.int 4)) [.app 5 .none] [.ite (.var 1) [.app 5 (.idx (.list [(.str "kiwi"), (.str "fig"), (.str "pear"), (.str "date")]) (.var 7))] [.app 5 (.idx (.list [(.int 30), (.neg (.int 2)), (.int 7), (.int 100)]) (.var 7))]]] (σ.set 6 (.frz t)))
    (R := fun acc σ => ∃ u v, σ = [.frz RR, .frz (.bool sp), .frz (.int base), .frz (.str hd), .frz (.int (t : Nat)), .own acc, u, v, .undef, .undef, .undef]) (g := fun t => match t with | .int i => [kv sp (rs.getD (1 + i.toNat) 0 % 5).toNat] | _ => []) (items := (List.range t).map fun i => .int (i : Nat)) (acc := [])
    (σ := [.frz RR, .frz (.bool sp), .frz (.int base), .frz (.str hd), .frz (.int (t : Nat)), .own [], .undef, .undef, .undef, .undef, .undef]) ⟨_, _, rfl⟩ (fun acc σ t' ht' hla ⟨u, v, hσ⟩ => by
      subst hσ
      refine xa_1_2 (List.mem_map.mp ht') fun i hi rq0 => ?_
      subst rq0
      have hi := List.mem_range.mp hi
      refine xa_1_2 (hfig i (by omega)) fun f hf hf5 => ?_
      have ei : tidx RR (.int (1 + (i : Nat))) = some (.int (rs.getD (1 + i) 0)) := by
        have := hx (1 + i) (by omega)
        rwa [Int.natCast_add] at this
      change acc.length + 1 ≤ 999 at hla
      refine ⟨_, st_asg (t := .int (f : Nat)) (ev_bin (x := .int (rs.getD (1 + i) 0)) (y := .int 5) (ev_idx (o := RR) (u := .int (1 + (i : Nat))) rfl (ev_bin (x := .int 1) (y := .int (i : Nat)) rfl rfl rfl) ei) rfl ?_) (side_tail (ct (n + 3)) RR (.int base) (.str hd) (.int (t : Nat)) sp acc (.frz (.int (i : Nat))) .undef .undef .undef f hf5 (lt_lim (by omega))), .frz (.int (i : Nat)), .frz (.int (f : Nat)), ?_⟩
      · show some (T.int (rs.getD (1 + i) 0 % 5)) = _
        rw [hf]
      · show _ = [LV.frz RR, .frz (.bool sp), .frz (.int base), .frz (.str hd), .frz (.int (t : Nat)), .own (acc ++ [kv sp (rs.getD (1 + i) 0 % 5).toNat]), .frz (.int (i : Nat)), .frz (.int (f : Nat)), .undef, .undef, .undef]
        rw [hf, Int.toNat_natCast]) (by
      have := flat_le (l := (List.range t).map fun i => T.int (i : Nat)) (g := fun t => match t with | .int i => [kv sp (rs.getD (1 + i.toNat) 0 % 5).toNat] | _ => []) (B := 1) fun x hx => by split <;> simp
      rw [List.length_map, List.length_range] at this
      simp only [List.length_nil]; omega)
  have e1 : [] ++ ((List.range t).map fun i => T.int (i : Nat)).flatMap (fun t => match t with | .int i => [kv sp (rs.getD (1 + i.toNat) 0 % 5).toNat] | _ => []) = ((List.range t).map fun i => (rs.getD (1 + i) 0 % 5).toNat).map (kv sp) := by
    rw [List.nil_append]
    generalize List.range t = ns
    induction ns with
    | nil => rfl
    | cons a ns ih => rw [List.map_cons, List.flatMap_cons, List.map_cons, List.map_cons, ih]; rfl
  rw [e1] at g2
  subst g2
  generalize (List.range t).map (fun i => (rs.getD (1 + i) 0 % 5).toNat) = a at hal hsm g1 ⊢
  subst hal
  have htall : ev (ct (n + 3)) false [.frz RR, .frz (.bool sp), .frz (.int base), .frz (.str hd), .undef, .undef, .undef, .undef, .undef, .undef, .undef] (.bin .Mod (.idx (.var 0) (.int 0)) (.int 6)) = some (.int (a.length : Nat)) := by
    refine ev_bin (x := .int (rs.getD 0 0)) (y := .int 6) (ev_idx (o := RR) (u := .int 0) rfl rfl (hx 0 (by omega))) rfl ?_
    show some (T.int (rs.getD 0 0 % 6)) = _
    rw [ht]
  obtain ⟨w1, w2⟩ := list_range1 a.length (by omega)
  have hcp : compRun (fun _ => some true) (fun x => ev (ct (n + 3)) false ([LV.frz RR, .frz (.bool sp), .frz (.int base), .frz (.str hd), .frz (.int (a.length : Nat)), .frz (.list (a.map (kv sp))), u, v, .frz (col sp a), .undef, .undef] ++ [LV.frz x]) (.bin .Add (.var 2) (.var 11))) ((List.range a.length).map fun i => T.int (i : Nat)) = some (rowA base a.length) :=
    comp_mapN fun i hi => rfl
  refine st_asg htall (st_asgF (l := []) rfl (st_for (u := .rng 0 a.length 1) (ev_bcall (ts := [.int (a.length : Nat)]) rfl q1) q2 g1 (st_frz rfl rfl ?_)))
  refine st_asg (t := col sp a) (ev_call (ts := [kd sp, .list (a.map (kv sp))]) (evL_cons (ev_ite (v := sp) rfl (by cases sp <;> rfl)) (evL_cons (ev_bcall (ts := [.list (a.map (kv sp))]) rfl (if_pos (by rw [List.length_map]; exact le_lim (by omega)))) rfl)) (ct_vec2 (n + 2) _ _)) ?_
  refine st_asg (t := icol (rowA base a.length)) (ev_call (ts := [.str "integer", .list (rowA base a.length)]) (evL_cons rfl (evL_cons (ev_comp (u := .rng 0 a.length 1) (ev_bcall (ts := [.int (a.length : Nat)]) rfl q1) q2 hcp) rfl)) (ct_vec2 (n + 2) _ _)) ?_
  refine st_asg (t := rowsT a.length) (ev_call (ts := [.str "integer", .list ((rngL 1 ((a.length : Int) + 1) 1).map .int)]) (evL_cons rfl (evL_cons (ev_bcall (ts := [.rng 1 ((a.length : Int) + 1) 1]) (evL_cons (ev_bcall (ts := [.int 1, .int ((a.length : Int) + 1)]) (evL_cons rfl (evL_cons (ev_bin (x := .int (a.length : Nat)) (y := .int 1) rfl rfl rfl) rfl)) w1) rfl) w2) rfl)) (ct_vec2 (n + 2) _ _)) ?_
  refine st_ret (ev_tup (evL_cons rfl (evL_cons (ev_call (ts := [.list [col sp a, icol (rowA base a.length)], .list [.str "k", .str hd], rowsT a.length]) (evL_cons (ev_list rfl (show 2 ≤ lim by decide)) (evL_cons (ev_list rfl (show 2 ≤ lim by decide)) rfl)) (r_new_frame n [col sp a, icol (rowA base a.length)] [.str "k", .str hd] (rowsT a.length) (by show 2 ≤ 100; decide) (by show 2 ≤ 1000; decide) ?_)) rfl)) (show 2 ≤ lim by decide))
  · intro x hx'
    simp only [List.mem_cons, List.not_mem_nil, or_false] at hx'
    rcases hx' with rfl | rfl <;> trivial
end Mine
end
section
open PySem PySem.W PySem.Spec PySem.SeqAt
set_option tactic.hygienic false
set_option maxHeartbeats 2000000
namespace Mine
structure OkI (t : T) : Prop where
  pl : ∀ n, plainT n t = true
  sh : PyData.showable (pd t) = true
  le : (PyData.shown (pd t)).length ≤ 20
  ok : PyData.strOk (PyData.shown (pd t)) = true
theorem strOk_app {a b : Str} (ha : PyData.strOk a = true) (hb : PyData.strOk b = true) : PyData.strOk (a ++ b) = true := by
  unfold PyData.strOk at *
  rw [Str.cps_append, Array.all_append, ha, hb]; rfl
theorem textFrom_ok : ∀ (ts : List Str) (k : Nat) (acc : Str), PyData.strOk acc = true → (∀ t ∈ ts, PyData.strOk t = true ∧ t.length ≤ 20) → PyData.strOk (textFrom k acc ts) = true ∧ (textFrom k acc ts).length ≤ acc.length + ts.length * 22
  | [], k, acc, h, _ => ⟨h, Nat.le_add_right _ _⟩
  | t :: r, k, acc, h, ht => by
    have hs : ∀ k : Nat, PyData.strOk ((if k > 0 then ", " else "" : String) : Str) = true ∧ ((if k > 0 then ", " else "" : String) : Str).length ≤ 2 := fun k => by
      split
      · exact ⟨by decide +kernel, by decide +kernel⟩
      · exact ⟨by decide +kernel, by decide +kernel⟩
    obtain ⟨h1, h2⟩ := textFrom_ok r (k + 1) (acc ++ (if k > 0 then ", " else "" : String) ++ t) (strOk_app (strOk_app h (hs k).1) (ht t (.head _)).1) fun u hu => ht u (.tail _ hu)
    refine ⟨h1, Nat.le_trans h2 ?_⟩
    have h3 := (hs k).2
    have h4 := (ht t (.head _)).2
    rw [Str.length_append, Str.length_append, List.length_cons]
    omega
theorem shownAll_map : ∀ l : List T, PyData.shownAll (pdL l) = l.map fun t => PyData.shown (pd t)
  | [] => rfl
  | t :: l => by rw [pdL, PyData.shownAll, shownAll_map l]; rfl
theorem showableAll_of : ∀ {l : List T}, (∀ t ∈ l, OkI t) → PyData.showableAll (pdL l) = true
  | [], _ => rfl
  | t :: l, h => by rw [pdL, PyData.showableAll, (h t (.head _)).sh, showableAll_of fun u hu => h u (.tail _ hu)]; rfl
theorem okRow_s {l : List T} (h : ∀ t ∈ l, OkI t) (hl : l.length ≤ 10) : okS l ∧ PyData.strOk (strOf l) = true := by
  have e : strOf l = textFrom 0 "[" (l.map fun t => PyData.shown (pd t)) ++ "]" := by
    show PyData.shown (pd (.list l)) = _
    rw [pd, PyData.shown, shownAll_map]; rfl
  obtain ⟨h1, h2⟩ := textFrom_ok (l.map fun t => PyData.shown (pd t)) 0 "[" (by decide +kernel) fun s hs => by
    obtain ⟨t, ht, rfl⟩ := List.mem_map.mp hs
    exact ⟨(h t ht).ok, (h t ht).le⟩
  rw [List.length_map] at h2
  have hok : PyData.strOk (strOf l) = true := by rw [e]; exact strOk_app h1 (by decide +kernel)
  refine ⟨?_, hok⟩
  show (if plainT 4 (.list l) && PyData.showable (pd (.list l)) && decide ((PyData.shown (pd (.list l))).length ≤ lim) then some (T.str (PyData.shown (pd (.list l)))) else none) = _
  have hlen : (strOf l).length ≤ lim := by
    rw [e, Str.length_append]
    have h3 : ("[" : Str).length = 1 := by decide +kernel
    have h4 : ("]" : Str).length = 1 := by decide +kernel
    exact le_lim (by omega)
  rw [if_pos]
  · rfl
  · rw [Bool.and_eq_true, Bool.and_eq_true]
    refine ⟨⟨plain_list (plainL_all fun t ht => (h t ht).pl 3), ?_⟩, decide_eq_true hlen⟩
    rw [pd, PyData.showable]; exact showableAll_of h
noncomputable def oiv (base : Int) : Option Nat → T
  | none => .none
  | some i => .int (base + (i : Nat))
theorem oki_none : OkI .none := ⟨fun n => by rw [plainT], by kernel_rfl, by decide +kernel, by kernel_rfl⟩
theorem oki_kv (sp : Bool) {f : Nat} (hf : f < 5) : OkI (kv sp f) := by
  refine ⟨fun n => plain_kv sp n f hf, ?_, ?_, ?_⟩ <;> rcases five hf with rfl | rfl | rfl | rfl | rfl <;> cases sp <;> first | kernel_rfl | decide +kernel
theorem oki_int (b : Bool) {i : Nat} (hi : i < 5) : OkI (.int ((if b then 10 else 20) + (i : Nat))) := by
  refine ⟨fun n => by rw [plainT], ?_, ?_, ?_⟩ <;> rcases five hi with rfl | rfl | rfl | rfl | rfl <;> cases b <;> first | kernel_rfl | decide +kernel
theorem pk_rowA {base : Int} {m : Nat} {o : Option Nat} (h : ∀ i, o = some i → i < m) : pk (rowA base m) o = oiv base o := by
  cases o with
  | none => rfl
  | some i =>
    have := h i rfl
    show (rowA base m).getD i .none = _
    unfold rowA
    simp [List.getD, this, oiv]
theorem oki_oiv (b : Bool) {o : Option Nat} (h : ∀ i, o = some i → i < 5) : OkI (oiv (if b then 10 else 20) o) := by
  cases o with
  | none => exact oki_none
  | some i => exact oki_int b (h i rfl)
end Mine
end
section
open PySem PySem.W PySem.Spec PySem.SeqAt
set_option tactic.hygienic false
set_option maxHeartbeats 2000000
namespace Mine
noncomputable def lineP (sp : Bool) (a b : List Nat) (p : Option Nat × Option Nat) : Str := strOf [kv sp (figP a b p), oiv 10 p.1, oiv 20 p.2]
theorem okP_1 {a b : List Nat} {p : Option Nat × Option Nat} (h : okP a b p) : ∀ i, p.1 = some i → i < a.length := fun i hi => by
  obtain ⟨p1, p2⟩ := p
  dsimp only at hi
  subst hi
  exact okP_fst h
theorem okP_2 {a b : List Nat} {p : Option Nat × Option Nat} (h : okP a b p) : ∀ i, p.2 = some i → i < b.length := fun i hi => by
  obtain ⟨p1, p2⟩ := p
  dsimp only at hi
  subst hi
  cases p1 with
  | none => exact h
  | some j => exact h.2
theorem okP_fig {a b : List Nat} (ha : small a) (hb : small b) {p : Option Nat × Option Nat} (h : okP a b p) : figP a b p < 5 :=
  small_fig ha hb (P := [p]) (fun q hq => by rw [List.mem_singleton.mp hq]; exact h) _ (.head _)
theorem line_ok (sp : Bool) {a b : List Nat} (ha : small a) (hb : small b) (hla : a.length ≤ 5) (hlb : b.length ≤ 5) {p : Option Nat × Option Nat} (h : okP a b p) :
    okS [kv sp (figP a b p), oiv 10 p.1, oiv 20 p.2] ∧ PyData.strOk (lineP sp a b p) = true :=
  okRow_s (fun t ht => by
    rcases List.mem_cons.mp ht with rfl | ht
    · exact oki_kv sp (okP_fig ha hb h)
    · rcases List.mem_cons.mp ht with rfl | ht
      · exact oki_oiv true fun i hi => by have := okP_1 h i hi; omega
      · rw [List.mem_singleton.mp ht]
        exact oki_oiv false fun i hi => by have := okP_2 h i hi; omega) (by show 3 ≤ 10; decide)
theorem r_mlines (n : Nat) (sp : Bool) (a b : List Nat) (P : List (Option Nat × Option Nat)) (ha : small a) (hb : small b) (hla : a.length ≤ 5) (hlb : b.length ≤ 5) (hP : ∀ p ∈ P, okP a b p) (hl : P.length ≤ 60) (names : List T) (rows : T) :
    ct (n + 1) 752 [fr [col sp (P.map (figP a b)), icol (P.map fun p => pk (rowA 10 a.length) p.1), icol (P.map fun p => pk (rowA 20 b.length) p.2)] names rows, .bool false] = some (.list ((P.map (lineP sp a b)).map .str)) := by
  have hrow : ∀ i (hi : i < P.length), rowAt [(kd sp, (P.map (figP a b)).map (kv sp)), (.str "integer", P.map fun p => pk (rowA 10 a.length) p.1), (.str "integer", P.map fun p => pk (rowA 20 b.length) p.2)] i = [kv sp (figP a b P[i]), oiv 10 P[i].1, oiv 20 P[i].2] := fun i hi => by
    have h := hP P[i] (by simp)
    show [((P.map (figP a b)).map (kv sp)).getD i .none, (P.map fun p => pk (rowA 10 a.length) p.1).getD i .none, (P.map fun p => pk (rowA 20 b.length) p.2).getD i .none] = _
    rw [← pk_rowA (okP_1 h), ← pk_rowA (okP_2 h)]
    simp [List.getD, hi]
  have := r_lines n (kd sp, (P.map (figP a b)).map (kv sp)) [(.str "integer", P.map fun p => pk (rowA 10 a.length) p.1), (.str "integer", P.map fun p => pk (rowA 20 b.length) p.2)] P.length (fun c hc => by
    simp only [List.mem_cons, List.not_mem_nil, or_false] at hc
    rcases hc with rfl | rfl | rfl <;> simp) hl (by show 3 ≤ 10; decide) names rows (fun i hi => by rw [hrow i hi]; exact (line_ok sp ha hb hla hlb (hP P[i] (by simp))).1)
  refine this.trans ?_
  congr 2
  refine List.ext_getElem (by simp) fun i h1 h2 => ?_
  have hi : i < P.length := by simpa using h2
  simp only [List.getElem_map, List.getElem_range]
  rw [hrow i hi]; rfl
theorem r_blines (n : Nat) (sp : Bool) (a b : List Nat) (P : List (Option Nat × Option Nat)) (ha : small a) (hb : small b) (hla : a.length ≤ 5) (hlb : b.length ≤ 5) (hP : ∀ p ∈ P, okP a b p) (hE : ∀ p ∈ P, eqP a b p) (Q : List (Option Nat × Option Nat)) (hQ : Q.Perm (P.map swapP)) (hl : P.length ≤ 60) (names : List T) (rows : T) :
    ∃ bs : List Str, bs.Perm (P.map (lineP sp a b)) ∧ ct (n + 1) 752 [fr [col sp (Q.map (figP b a)), icol (Q.map fun p => pk (rowA 20 b.length) p.1), icol (Q.map fun p => pk (rowA 10 a.length) p.2)] names rows, .bool true] = some (.list (bs.map .str)) := by
  have hq : ∀ q ∈ Q, okP a b (swapP q) ∧ figP b a q = figP a b (swapP q) := fun q hq => by
    obtain ⟨p, hp, rfl⟩ := List.mem_map.mp (hQ.mem_iff.mp hq)
    exact ⟨hP p hp, hE p hp⟩
  have hQl : Q.length = P.length := by rw [hQ.length_eq, List.length_map]
  have hrow : ∀ i (hi : i < Q.length), exAt (kd sp, (Q.map (figP b a)).map (kv sp)) (.str "integer", Q.map fun p => pk (rowA 20 b.length) p.1) (.str "integer", Q.map fun p => pk (rowA 10 a.length) p.2) i = [kv sp (figP a b (swapP Q[i])), oiv 10 (swapP Q[i]).1, oiv 20 (swapP Q[i]).2] := fun i hi => by
    obtain ⟨h, e⟩ := hq Q[i] (by simp)
    show [((Q.map (figP b a)).map (kv sp)).getD i .none, (Q.map fun p => pk (rowA 10 a.length) p.2).getD i .none, (Q.map fun p => pk (rowA 20 b.length) p.1).getD i .none] = _
    rw [← pk_rowA (okP_1 h), ← pk_rowA (okP_2 h), ← e]
    simp [List.getD, hi, swapP]
  have := r_lines_ex n (kd sp, (Q.map (figP b a)).map (kv sp)) (.str "integer", Q.map fun p => pk (rowA 20 b.length) p.1) (.str "integer", Q.map fun p => pk (rowA 10 a.length) p.2) Q.length (fun c hc => by
    simp only [List.mem_cons, List.not_mem_nil, or_false] at hc
    rcases hc with rfl | rfl | rfl <;> simp) (by omega) names rows (fun i hi => by rw [hrow i hi]; exact (line_ok sp ha hb hla hlb (hq Q[i] (by simp)).1).1)
  refine ⟨Q.map fun q => lineP sp a b (swapP q), ?_, this.trans ?_⟩
  · have := hQ.map fun q => lineP sp a b (swapP q)
    rw [List.map_map] at this
    exact this
  · congr 2
    refine List.ext_getElem (by simp) fun i h1 h2 => ?_
    have hi : i < Q.length := by simpa using h2
    simp only [List.getElem_map, List.getElem_range]
    rw [hrow i hi]; rfl
noncomputable def lineX (sp : Bool) (a b : List Nat) (p : Option Nat × Option Nat) : Str := strOf [pk (a.map (kv sp)) p.1, oiv 10 p.1, pk (b.map (kv sp)) p.2, oiv 20 p.2]
theorem lineX_ok (sp : Bool) {a b : List Nat} (ha : small a) (hb : small b) (hla : a.length ≤ 5) (hlb : b.length ≤ 5) {i j : Nat} (hi : i < a.length) (hj : j < b.length) :
    okS [pk (a.map (kv sp)) (some i), oiv 10 (some i), pk (b.map (kv sp)) (some j), oiv 20 (some j)] ∧ PyData.strOk (lineX sp a b (some i, some j)) = true :=
  okRow_s (fun t ht => by
    have e1 : pk (a.map (kv sp)) (some i) = kv sp a[i] := by show (a.map (kv sp)).getD i .none = _; simp [List.getD, hi]
    have e2 : pk (b.map (kv sp)) (some j) = kv sp b[j] := by show (b.map (kv sp)).getD j .none = _; simp [List.getD, hj]
    simp only [List.mem_cons, List.not_mem_nil, or_false] at ht
    rcases ht with rfl | rfl | rfl | rfl
    · rw [e1]; exact oki_kv sp (ha _ (by simp))
    · exact oki_oiv true fun k hk => by (refine some_el hk fun qq => ?_; subst qq; clear hk); omega
    · rw [e2]; exact oki_kv sp (hb _ (by simp))
    · exact oki_oiv false fun k hk => by (refine some_el hk fun qq => ?_; subst qq; clear hk); omega) (by show 4 ≤ 10; decide)
theorem r_xlines (n : Nat) (sp : Bool) (a b : List Nat) (ha : small a) (hb : small b) (hla : a.length ≤ 5) (hlb : b.length ≤ 5) (P : List (Option Nat × Option Nat)) (hP : ∀ p ∈ P, ∃ i j, p = (some i, some j) ∧ i < a.length ∧ j < b.length) (hl : P.length ≤ 60) (names : List T) (rows : T) :
    ct (n + 1) 752 [fr [vecN (kd sp) (.list (P.map fun p => pk (a.map (kv sp)) p.1)), icol (P.map fun p => pk (rowA 10 a.length) p.1), vecN (kd sp) (.list (P.map fun p => pk (b.map (kv sp)) p.2)), icol (P.map fun p => pk (rowA 20 b.length) p.2)] names rows, .bool false] = some (.list ((P.map (lineX sp a b)).map .str)) := by
  have hrow : ∀ i (hi : i < P.length), rowAt [(kd sp, P.map fun p => pk (a.map (kv sp)) p.1), (.str "integer", P.map fun p => pk (rowA 10 a.length) p.1), (kd sp, P.map fun p => pk (b.map (kv sp)) p.2), (.str "integer", P.map fun p => pk (rowA 20 b.length) p.2)] i = [pk (a.map (kv sp)) P[i].1, oiv 10 P[i].1, pk (b.map (kv sp)) P[i].2, oiv 20 P[i].2] := fun i hi => by
    obtain ⟨u, v, e, hu, hv⟩ := hP P[i] (by simp)
    show [(P.map fun p => pk (a.map (kv sp)) p.1).getD i .none, (P.map fun p => pk (rowA 10 a.length) p.1).getD i .none, (P.map fun p => pk (b.map (kv sp)) p.2).getD i .none, (P.map fun p => pk (rowA 20 b.length) p.2).getD i .none] = _
    rw [← pk_rowA (base := 10) (m := a.length) (o := P[i].1) (fun k hk => by rw [e] at hk; (refine some_el hk fun qq => ?_; subst qq; clear hk); exact hu), ← pk_rowA (base := 20) (m := b.length) (o := P[i].2) (fun k hk => by rw [e] at hk; (refine some_el hk fun qq => ?_; subst qq; clear hk); exact hv)]
    simp [List.getD, hi]
  have := r_lines n (kd sp, P.map fun p => pk (a.map (kv sp)) p.1) [(.str "integer", P.map fun p => pk (rowA 10 a.length) p.1), (kd sp, P.map fun p => pk (b.map (kv sp)) p.2), (.str "integer", P.map fun p => pk (rowA 20 b.length) p.2)] P.length (fun c hc => by
    simp only [List.mem_cons, List.not_mem_nil, or_false] at hc
    rcases hc with rfl | rfl | rfl | rfl <;> simp) hl (by show 4 ≤ 10; decide) names rows (fun i hi => by
      obtain ⟨u, v, e, hu, hv⟩ := hP P[i] (by simp)
      rw [hrow i hi, e]; exact (lineX_ok sp ha hb hla hlb hu hv).1)
  refine this.trans ?_
  congr 2
  refine List.ext_getElem (by simp) fun i h1 h2 => ?_
  have hi : i < P.length := by simpa using h2
  simp only [List.getElem_map, List.getElem_range]
  rw [hrow i hi]; rfl
end Mine
end
section
open PySem PySem.W PySem.Spec PySem.SeqAt
set_option tactic.hygienic false
set_option maxHeartbeats 2000000
namespace Mine
noncomputable def lawBody : List MS := [
      .asg 15 (.call "merge_frames" 735 [(.var 5), (.var 7), (.list [(.str "k")]), (.var 13), (.var 14), (.list [(.str ".one"), (.str ".two")])]),
      .asg 16 (.call "merge_frames" 735 [(.var 7), (.var 5), (.list [(.str "k")]), (.var 14), (.var 13), (.list [(.str ".two"), (.str ".one")])]),
      .asg 17 (.call "_law_lines" 752 [(.var 15), (.bool false)]),
      .asg 18 (.bin .Add (.bin .Add (.var 8) (.ite (.var 13) (.var 10) (.int 0))) (.ite (.var 14) (.var 11) (.int 0))),
      .ite (.bop .Or [(.cmp .NotEq (.bcall .len [(.var 17)]) (.var 18)), (.cmp .NotEq (.bcall .sorted [(.var 17)]) (.bcall .sorted [(.call "_law_lines" 752 [(.var 16), (.bool true)])]))]) [
        .ret (.bool false)] [],
      .ite (.cmp .NotEq (.comp (.var 25) (.var 12) (some (.cmp .NotIn (.var 25) (.var 17)))) (.list [])) [
        .ret (.bool false)] [],
      .ite (.bop .Or [(.not (.call "_law_ascends" 757 [(.attr (.idx (.attr (.var 15) "items") (.int 0)) "items")])), (.not (.call "_law_ascends" 757 [(.attr (.idx (.attr (.var 16) "items") (.int 0)) "items")]))]) [
        .ret (.bool false)] [],
      .asg 19 (.ite (.var 3) (.list [(.str "k"), (.str "v.one"), (.str "v.two")]) (.list [(.str "k"), (.str "v"), (.str "w")])),
      .ite (.bop .Or [(.cmp .NotEq (.attr (.idx (.attr (.var 15) "attrs") (.str "names")) "items") (.var 19)), (.cmp .NotEq (.attr (.idx (.attr (.var 16) "attrs") (.str "names")) "items") (.list [(.idx (.var 19) (.int 0)), (.idx (.var 19) (.int 2)), (.idx (.var 19) (.int 1))]))]) [
        .ret (.bool false)] [],
      .ite (.cmp .NotEq (.attr (.idx (.attr (.var 15) "attrs") (.str "row.names")) "items") (.bcall .list [(.bcall .range [(.int 1), (.bin .Add (.var 18) (.int 1))])])) [
        .ret (.bool false)] [],
      .asg 20 (.call "merge_frames" 735 [(.var 5), (.var 7), (.list [(.str "k")]), (.var 13), (.var 14), (.list [(.str ".one"), (.str ".two")]), (.bool false)]),
      .ite (.cmp .NotEq (.bcall .sorted [(.call "_law_lines" 752 [(.var 20), (.bool false)])]) (.bcall .sorted [(.var 17)])) [
        .ret (.bool false)] []]
theorem comp_none {test : T → Option Bool} {f : T → Option T} : ∀ {items : List T}, (∀ t ∈ items, test t = some false) → compRun test f items = some []
  | [], _ => rfl
  | t :: ts, h => by
    unfold compRun
    rw [h t (.head _)]
    exact comp_none fun u hu => h u (.tail _ hu)
theorem plain_strs {n : Nat} {ss : List Str} (h : ∀ s ∈ ss, PyData.strOk s = true) : plainL n (ss.map .str) = true := plainL_all fun t ht => by
  refine xa_1_2 (List.mem_map.mp ht) fun s hs rq0 => ?_
  subst rq0
  rw [plainT]; exact h s hs
theorem plain_ints {n : Nat} {ss : List Int} : plainL n (ss.map .int) = true := plainL_all fun t ht => by
  refine xa_1_2 (List.mem_map.mp ht) fun s hs rq0 => ?_
  subst rq0
  rw [plainT]
theorem in_strs {s : Str} {ss : List Str} (hs : PyData.strOk s = true) (h : ∀ s ∈ ss, PyData.strOk s = true) (hm : s ∈ ss) : tcmp .NotIn (.str s) (.list (ss.map .str)) = some false := by
  show (if plainT 4 (.str s) && plainL 4 (ss.map .str) then some ((ss.map T.str).any fun y => teq y (.str s)) else none).map (!·) = _
  have e : plainT 4 (.str s) = true := by rw [plainT]; exact hs
  rw [if_pos (by rw [e, plain_strs h]; rfl)]
  have : ((ss.map T.str).any fun y => teq y (.str s)) = true := List.any_eq_true.mpr ⟨.str s, List.mem_map.mpr ⟨s, hm, rfl⟩, teq_refl 4 _ e⟩
  rw [this]; rfl
theorem sort_mem {ss : List Str} {s : Str} (h : s ∈ sortS ss) : s ∈ ss := (List.mergeSort_perm ss leS).mem_iff.mp h
theorem ne_int (n : Nat) : tcmp .NotEq (.int (n : Nat)) (.int (n : Nat)) = some false := by
  show some (!((n : Int) == n)) = _
  rw [beq_self_eq_true]; rfl
theorem fr_items (cols names : List T) (rows : T) : tattr (fr cols names rows) "items" = some (.list cols) := rfl
theorem fr_attrs (cols names : List T) (rows : T) : tattr (fr cols names rows) "attrs" = some (.dict ["names", "class", "row.names"] [chr names, chr [.str "data.frame"], rows]) := by kernel_rfl
theorem fr_names (n c r : T) : tidx (.dict ["names", "class", "row.names"] [n, c, r]) (.str "names") = some n := by kernel_rfl
theorem fr_rows (n c r : T) : tidx (.dict ["names", "class", "row.names"] [n, c, r]) (.str "row.names") = some r := by kernel_rfl
noncomputable def hd1 (alike : Bool) : Str := if alike then "v.one" else "v"
noncomputable def hd2 (alike : Bool) : Str := if alike then "v.two" else "w"
theorem law_body (c : Addr → List T → Option T) (S RW LK RK L R Lo : T) (sp alike x y : Bool) (ic ll lr : Nat) (IL ls bs os : List Str) (k0 k1 : T) (kM kB csM csB : List T) (v9 v15 v16 v17 v18 v19 v20 v21 v22 v23 v24 : LV)
    (h15 : c 735 [L, R, .list [.str "k"], .bool x, .bool y, .list [.str ".one", .str ".two"]] = some (fr (vecN k0 (.list kM) :: csM) [.str "k", .str (hd1 alike), .str (hd2 alike)] (rowsT ls.length)))
    (h16 : c 735 [R, L, .list [.str "k"], .bool y, .bool x, .list [.str ".two", .str ".one"]] = some (fr (vecN k1 (.list kB) :: csB) [.str "k", .str (hd2 alike), .str (hd1 alike)] (rowsT bs.length)))
    (h17 : c 752 [fr (vecN k0 (.list kM) :: csM) [.str "k", .str (hd1 alike), .str (hd2 alike)] (rowsT ls.length), .bool false] = some (.list (ls.map .str)))
    (h17b : c 752 [fr (vecN k1 (.list kB) :: csB) [.str "k", .str (hd2 alike), .str (hd1 alike)] (rowsT bs.length), .bool true] = some (.list (bs.map .str)))
    (h18 : ls.length = ic + (if x then ll else 0) + (if y then lr else 0)) (h60 : ls.length ≤ 60) (hbs : bs.Perm ls) (hsub : ∀ s ∈ IL, s ∈ ls) (hok : ∀ s ∈ ls, PyData.strOk s = true) (hIL : IL.length ≤ 60)
    (hA : c 757 [.list kM] = some (.bool true)) (hB : c 757 [.list kB] = some (.bool true))
    (h20 : c 735 [L, R, .list [.str "k"], .bool x, .bool y, .list [.str ".one", .str ".two"], .bool false] = some Lo)
    (h20b : c 752 [Lo, .bool false] = some (.list (os.map .str))) (hos : os.Perm ls) :
    ∃ w15 w16 w17 w18 w19 w20, exs c lawBody [.frz S, .frz RW, .frz (.bool sp), .frz (.bool alike), .frz LK, .frz L, .frz RK, .frz R, .frz (.int (ic : Nat)), v9, .frz (.int (ll : Nat)), .frz (.int (lr : Nat)), .frz (.list (IL.map .str)), .frz (.bool x), .frz (.bool y), v15, v16, v17, v18, v19, v20, v21, v22, v23, v24]
      = some (.nxt [.frz S, .frz RW, .frz (.bool sp), .frz (.bool alike), .frz LK, .frz L, .frz RK, .frz R, .frz (.int (ic : Nat)), v9, .frz (.int (ll : Nat)), .frz (.int (lr : Nat)), .frz (.list (IL.map .str)), .frz (.bool x), .frz (.bool y), w15, w16, w17, w18, w19, w20, v21, v22, v23, v24]) := by
  have hit := fr_items (vecN k0 (.list kM) :: csM) [.str "k", .str (hd1 alike), .str (hd2 alike)] (rowsT ls.length)
  have hat := fr_attrs (vecN k0 (.list kM) :: csM) [.str "k", .str (hd1 alike), .str (hd2 alike)] (rowsT ls.length)
  have hit' := fr_items (vecN k1 (.list kB) :: csB) [.str "k", .str (hd2 alike), .str (hd1 alike)] (rowsT bs.length)
  have hat' := fr_attrs (vecN k1 (.list kB) :: csB) [.str "k", .str (hd2 alike), .str (hd1 alike)] (rowsT bs.length)
  generalize fr (vecN k0 (.list kM) :: csM) [.str "k", .str (hd1 alike), .str (hd2 alike)] (rowsT ls.length) = M at *
  generalize fr (vecN k1 (.list kB) :: csB) [.str "k", .str (hd2 alike), .str (hd1 alike)] (rowsT bs.length) = B at *
  have hbl : bs.length = ls.length := hbs.length_eq
  have hol : os.length = ls.length := hos.length_eq
  have hlen : tcall .len [.list (ls.map .str)] = some (.int ls.length) := by rw [len_list _ (by rw [List.length_map]; omega), List.length_map]
  have hso := sorted_strs ls (by omega)
  have hsob : tcall .sorted [.list (bs.map .str)] = some (.list ((sortS ls).map .str)) := by rw [sorted_strs bs (by omega), sortS_perm hbs]
  have hsoo : tcall .sorted [.list (os.map .str)] = some (.list ((sortS ls).map .str)) := by rw [sorted_strs os (by omega), sortS_perm hos]
  have hsp : plainL 3 ((sortS ls).map .str) = true := plain_strs fun s hs => hok s (sort_mem hs)
  have hne := ne_list hsp
  obtain ⟨w1, w2⟩ := list_range1 ls.length (by omega)
  refine ⟨.frz M, .frz B, .frz (.list (ls.map .str)), .frz (.int ls.length), .frz (.list [.str "k", .str (hd1 alike), .str (hd2 alike)]), .frz Lo, ?_⟩
  refine st_asg (t := M) (ev_call (ts := [L, R, .list [.str "k"], .bool x, .bool y, .list [.str ".one", .str ".two"]]) rfl h15) ?_
  refine st_asg (t := B) (ev_call (ts := [R, L, .list [.str "k"], .bool y, .bool x, .list [.str ".two", .str ".one"]]) rfl h16) ?_
  refine st_asg (t := .list (ls.map .str)) (ev_call (ts := [M, .bool false]) rfl h17) ?_
  generalize hLS : T.list (ls.map .str) = LS at *
  refine st_asg (t := .int ls.length) ?_ ?_
  · rw [h18]
    cases x <;> cases y <;> (simp only [Bool.false_eq_true, if_false, if_true, Int.natCast_add]; exact rfl)
  refine st_ite (v := false) (r := .nxt _) (ev_or2 (ev_cmp (x := .int ls.length) (y := .int ls.length) (ev_bcall (ts := [LS]) rfl hlen) rfl (ne_int _)) (ev_cmp (x := .list ((sortS ls).map .str)) (y := .list ((sortS ls).map .str)) (ev_bcall (ts := [LS]) rfl hso) (ev_bcall (ts := [.list (bs.map .str)]) (evL_cons (ev_call (ts := [B, .bool true]) rfl h17b) rfl) hsob) hne)) st_nil ?_
  refine st_ite (v := false) (r := .nxt _) (ev_cmp (x := .list []) (y := .list []) (ev_comp (u := .list (IL.map .str)) rfl (if_pos (by rw [List.length_map]; exact le_lim (by omega))) (comp_none fun t ht => ?_)) rfl (by kernel_rfl)) st_nil ?_
  · obtain ⟨s, hs, rfl⟩ := List.mem_map.mp ht
    have h := in_strs (hok s (hsub s hs)) hok (hsub s hs)
    rw [hLS] at h
    show (do asB (← ev c false _ (.cmp .NotIn (.var 25) (.var 17)))) = _
    rw [ev_cmp (x := .str s) (y := LS) rfl rfl h]; rfl
  refine st_ite (v := false) (r := .nxt _) (ev_or2 (ev_not (v := true) (ev_call (ts := [.list kM]) (evL_cons (ev_attr (o := vecN k0 (.list kM)) (ev_idx (o := .list (vecN k0 (.list kM) :: csM)) (u := .int 0) (ev_attr (o := M) rfl hit) rfl rfl) rfl) rfl) hA))
    (ev_not (v := true) (ev_call (ts := [.list kB]) (evL_cons (ev_attr (o := vecN k1 (.list kB)) (ev_idx (o := .list (vecN k1 (.list kB) :: csB)) (u := .int 0) (ev_attr (o := B) rfl hit') rfl rfl) rfl) rfl) hB))) st_nil ?_
  refine st_asg (t := .list [.str "k", .str (hd1 alike), .str (hd2 alike)]) (by cases alike <;> rfl) ?_
  refine st_ite (v := false) (r := .nxt _) (ev_or2 (ev_cmp (x := .list [.str "k", .str (hd1 alike), .str (hd2 alike)]) (y := .list [.str "k", .str (hd1 alike), .str (hd2 alike)]) (ev_attr (o := chr [.str "k", .str (hd1 alike), .str (hd2 alike)]) (ev_idx (u := .str "names") (ev_attr (o := M) rfl hat) rfl (fr_names _ _ _)) rfl) rfl (by cases alike <;> kernel_rfl))
    (ev_cmp (x := .list [.str "k", .str (hd2 alike), .str (hd1 alike)]) (y := .list [.str "k", .str (hd2 alike), .str (hd1 alike)]) (ev_attr (o := chr [.str "k", .str (hd2 alike), .str (hd1 alike)]) (ev_idx (u := .str "names") (ev_attr (o := B) rfl hat') rfl (fr_names _ _ _)) rfl) rfl (by cases alike <;> kernel_rfl))) st_nil ?_
  refine st_ite (v := false) (r := .nxt _) (ev_cmp (x := .list ((rngL 1 ((ls.length : Int) + 1) 1).map .int)) (y := .list ((rngL 1 ((ls.length : Int) + 1) 1).map .int)) (ev_attr (o := rowsT ls.length) (ev_idx (u := .str "row.names") (ev_attr (o := M) rfl hat) rfl (fr_rows _ _ _)) rfl)
    (ev_bcall (ts := [.rng 1 ((ls.length : Int) + 1) 1]) (evL_cons (ev_bcall (ts := [.int 1, .int ((ls.length : Int) + 1)]) rfl w1) rfl) w2) (ne_list plain_ints)) st_nil ?_
  refine st_asg (t := Lo) (ev_call (ts := [L, R, .list [.str "k"], .bool x, .bool y, .list [.str ".one", .str ".two"], .bool false]) rfl h20) ?_
  exact st_ite (v := false) (r := .nxt _) (ev_cmp (x := .list ((sortS ls).map .str)) (y := .list ((sortS ls).map .str)) (ev_bcall (ts := [.list (os.map .str)]) (evL_cons (ev_call (ts := [Lo, .bool false]) rfl h20b) rfl) hsoo) (ev_bcall (ts := [LS]) rfl hso) hne) st_nil st_nil
end Mine
end
section
open PySem PySem.W PySem.Spec PySem.SeqAt
set_option tactic.hygienic false
set_option maxHeartbeats 2000000
namespace Mine
theorem ct_six (n : Nat) (l r b p q s : T) : ct (n + 1) 735 [l, r, b, p, q, s] = ct (n + 1) 735 [l, r, b, p, q, s, .bool true] := by kernel_rfl
theorem rowA_len (b : Int) (m : Nat) : (rowA b m).length = m := by unfold rowA; rw [List.length_map, List.length_range]
noncomputable def hdR (alike : Bool) : Str := if alike then "v" else "w"
theorem hdR_or (alike : Bool) : hdR alike = "v" ∨ hdR alike = "w" := by cases alike; exact .inr rfl; exact .inl rfl
theorem on_1 (n : Nat) (alike : Bool) : ct (n + 6) 717 [.list [.str "k", .str "v"], .list [.str "k", .str (hdR alike)], .list [.str "k"], .str ".one"] = some (.list [.str (hd1 alike)]) := by cases alike <;> kernel_rfl
theorem on_2 (n : Nat) (alike : Bool) : ct (n + 6) 717 [.list [.str "k", .str (hdR alike)], .list [.str "k", .str "v"], .list [.str "k"], .str ".two"] = some (.list [.str (hd2 alike)]) := by cases alike <;> kernel_rfl
theorem on_3 (n : Nat) (alike : Bool) : ∃ s, ct (n + 6) 717 [.list [.str "k", .str "v"], .list [.str "k", .str (hdR alike)], .list [.str "k"], .str ".x"] = some (.list [.str s]) := by
  cases alike
  · exact ⟨"v", by kernel_rfl⟩
  · exact ⟨"v.x", by kernel_rfl⟩
theorem on_4 (n : Nat) (alike : Bool) : ∃ s, ct (n + 6) 717 [.list [.str "k", .str (hdR alike)], .list [.str "k", .str "v"], .list [.str "k"], .str ".y"] = some (.list [.str s]) := by
  cases alike
  · exact ⟨"w", by kernel_rfl⟩
  · exact ⟨"v.y", by kernel_rfl⟩
noncomputable abbrev frL (sp : Bool) (a : List Nat) : T := kfr sp a (rowA 10 a.length) "v"
noncomputable abbrev frR (sp alike : Bool) (b : List Nat) : T := kfr sp b (rowA 20 b.length) (hdR alike)
noncomputable def icOf (a b : List Nat) : Nat := (a.map fun f => b.count f).sum
noncomputable def lnOf (a b : List Nat) : Nat := (a.filter fun f => !b.contains f).length
theorem body_real (n : Nat) (sp alike x y : Bool) (a b : List Nat) (ha : small a) (hb : small b) (hla : a.length ≤ 5) (hlb : b.length ≤ 5) (S RW LK RK : T) (IL : List Str) (hIL : ∀ s ∈ IL, ∃ p ∈ pairsP a b false false, s = lineP sp a b p) (hIll : IL.length ≤ 60) (v9 v15 v16 v17 v18 v19 v20 v21 v22 v23 v24 : LV) :
    ∃ w15 w16 w17 w18 w19 w20, exs (ct (n + 7)) lawBody [.frz S, .frz RW, .frz (.bool sp), .frz (.bool alike), .frz LK, .frz (frL sp a), .frz RK, .frz (frR sp alike b), .frz (.int (icOf a b : Nat)), v9, .frz (.int (lnOf a b : Nat)), .frz (.int (lnOf b a : Nat)), .frz (.list (IL.map .str)), .frz (.bool x), .frz (.bool y), v15, v16, v17, v18, v19, v20, v21, v22, v23, v24]
      = some (.nxt [.frz S, .frz RW, .frz (.bool sp), .frz (.bool alike), .frz LK, .frz (frL sp a), .frz RK, .frz (frR sp alike b), .frz (.int (icOf a b : Nat)), v9, .frz (.int (lnOf a b : Nat)), .frz (.int (lnOf b a : Nat)), .frz (.list (IL.map .str)), .frz (.bool x), .frz (.bool y), w15, w16, w17, w18, w19, w20, v21, v22, v23, v24]) := by
  obtain ⟨P, hP, hPs, h15⟩ := r_merge_k n sp a b (rowA 10 a.length) (rowA 20 b.length) "v" (hdR alike) ".one" ".two" [.str (hd1 alike)] [.str (hd2 alike)] x y true ha hb hla hlb (rowA_len _ _) (rowA_len _ _) (.inl rfl) (hdR_or alike) (on_1 n alike) (on_2 n alike) (by show 1 ≤ 5; decide) (by show 1 ≤ 5; decide)
  obtain ⟨Q, hQ, hQs, h16⟩ := r_merge_k n sp b a (rowA 20 b.length) (rowA 10 a.length) (hdR alike) "v" ".two" ".one" [.str (hd2 alike)] [.str (hd1 alike)] y x true hb ha hlb hla (rowA_len _ _) (rowA_len _ _) (hdR_or alike) (.inl rfl) (on_2 n alike) (on_1 n alike) (by show 1 ≤ 5; decide) (by show 1 ≤ 5; decide)
  obtain ⟨P2, hP2, _, h20⟩ := r_merge_k n sp a b (rowA 10 a.length) (rowA 20 b.length) "v" (hdR alike) ".one" ".two" [.str (hd1 alike)] [.str (hd2 alike)] x y false ha hb hla hlb (rowA_len _ _) (rowA_len _ _) (.inl rfl) (hdR_or alike) (on_1 n alike) (on_2 n alike) (by show 1 ≤ 5; decide) (by show 1 ≤ 5; decide)
  have hpl := pairs_len (x := x) (y := y) hla hlb
  have okP' : ∀ p ∈ P, okP a b p := fun p hp => pairs_ok p (hP.mem_iff.mp hp)
  have okP2 : ∀ p ∈ P2, okP a b p := fun p hp => pairs_ok p (hP2.mem_iff.mp hp)
  have okQ : ∀ p ∈ Q, okP b a p := fun p hp => pairs_ok p (hQ.mem_iff.mp hp)
  have eqP' : ∀ p ∈ P, eqP a b p := fun p hp => pairs_eq a b x y p (hP.mem_iff.mp hp)
  have hPl : P.length ≤ 60 := by rw [hP.length_eq]; omega
  have hP2l : P2.length ≤ 60 := by rw [hP2.length_eq]; omega
  have hQP : Q.Perm (P.map swapP) := hQ.trans ((pairs_swap b a y x).trans (hP.symm.map swapP))
  have hQl : Q.length = P.length := by rw [hQP.length_eq, List.length_map]
  have h17 := fun names rows => r_mlines (n + 6) sp a b P ha hb hla hlb okP' hPl names rows
  have h20b := fun names rows => r_mlines (n + 6) sp a b P2 ha hb hla hlb okP2 hP2l names rows
  refine xa_1_2 (r_blines (n + 6) sp a b P ha hb hla hlb okP' eqP' Q hQP hPl ([.str "k"] ++ [.str (hd2 alike)] ++ [.str (hd1 alike)]) (rowsT Q.length)) fun bs hbs h17b => ?_
  have e1 : P.length = (P.map (lineP sp a b)).length := (List.length_map _).symm
  have e2 : Q.length = bs.length := by rw [hbs.length_eq, List.length_map]; exact hQl
  have hA := r_ascends (n + 6) sp (P.map (figP a b)) (small_fig ha hb okP') (hPs rfl) (by rw [List.length_map]; exact hPl)
  have hB := r_ascends (n + 6) sp (Q.map (figP b a)) (small_fig hb ha okQ) (hQs rfl) (by rw [List.length_map]; omega)
  rw [e2] at h17b h16
  rw [e1] at h15
  rw [← ct_six] at h15 h16
  refine law_body (ct (n + 7)) S RW LK RK (frL sp a) (frR sp alike b) _ sp alike x y (icOf a b) (lnOf a b) (lnOf b a) IL (P.map (lineP sp a b)) bs (P2.map (lineP sp a b)) (kd sp) (kd sp) _ _ _ _ v9 v15 v16 v17 v18 v19 v20 v21 v22 v23 v24
    h15 h16 (h17 _ _) h17b ?_ (by rw [List.length_map]; exact hPl) hbs ?_ ?_ hIll hA hB h20 (h20b _ _) ((hP2.trans hP.symm).map _)
  · rw [List.length_map, hP.length_eq]; exact pairs_length a b x y
  · intro s hs
    refine xa_1_2 (hIL s hs) fun p hp rq0 => ?_
    subst rq0
    exact List.mem_map.mpr ⟨p, hP.mem_iff.mpr (inner_sub a b x y p hp), rfl⟩
  · intro s hs
    refine xa_1_2 (List.mem_map.mp hs) fun p hp rq0 => ?_
    subst rq0
    exact (line_ok sp ha hb hla hlb (okP' p hp)).2
theorem for_keep {step : List LV → T → Option Out} {Q : List LV → Prop} : ∀ {items : List T} {σ : List LV}, (∀ σ t, t ∈ items → Q σ → ∃ σ', step σ t = some (.nxt σ') ∧ Q σ') → Q σ → ∃ σ', runFor step items σ = some (.nxt σ') ∧ Q σ'
  | [], σ, _, h => ⟨σ, rfl, h⟩
  | t :: ts, σ, k, h => by
    refine Classical.byContradiction fun hCC => ?_
    refine xa_1_2 (k σ t (.head _) h) fun σ1 h1 h2 => ?_
    refine xa_1_2 (for_keep (items := ts) (fun σ t ht => k σ t (.tail _ ht)) h2) fun σ' h3 h4 => ?_
    refine hCC ?_
    clear hCC
    exact ⟨σ', by unfold runFor; rw [h1]; exact h3, h4⟩
theorem law_loops (n : Nat) (sp alike : Bool) (a b : List Nat) (ha : small a) (hb : small b) (hla : a.length ≤ 5) (hlb : b.length ≤ 5) (S RW LK RK : T) (IL : List Str) (hIL : ∀ s ∈ IL, ∃ p ∈ pairsP a b false false, s = lineP sp a b p) (hIll : IL.length ≤ 60) (v9 v21 v22 v23 v24 : LV) :
    ∃ w13 w14 w15 w16 w17 w18 w19 w20, runFor (fun σ t => exs (ct (n + 7)) [.forI 14 (.list [(.bool false), (.bool true)]) lawBody] (σ.set 13 (.frz t))) [.bool false, .bool true] [.frz S, .frz RW, .frz (.bool sp), .frz (.bool alike), .frz LK, .frz (frL sp a), .frz RK, .frz (frR sp alike b), .frz (.int (icOf a b : Nat)), v9, .frz (.int (lnOf a b : Nat)), .frz (.int (lnOf b a : Nat)), .frz (.list (IL.map .str)), .undef, .undef, .undef, .undef, .undef, .undef, .undef, .undef, v21, v22, v23, v24]
      = some (.nxt [.frz S, .frz RW, .frz (.bool sp), .frz (.bool alike), .frz LK, .frz (frL sp a), .frz RK, .frz (frR sp alike b), .frz (.int (icOf a b : Nat)), v9, .frz (.int (lnOf a b : Nat)), .frz (.int (lnOf b a : Nat)), .frz (.list (IL.map .str)), w13, w14, w15, w16, w17, w18, w19, w20, v21, v22, v23, v24]) := by
  have body := fun x y v15 v16 v17 v18 v19 v20 => body_real n sp alike x y a b ha hb hla hlb S RW LK RK IL hIL hIll v9 v15 v16 v17 v18 v19 v20 v21 v22 v23 v24
  generalize frL sp a = L at body ⊢
  generalize frR sp alike b = R at body ⊢
  generalize T.list (IL.map .str) = ILT at body ⊢
  obtain ⟨σ', h1, w13, w14, w15, w16, w17, w18, w19, w20, rfl⟩ := for_keep (step := fun σ t => exs (ct (n + 7)) [.forI 14 (.list [(.bool false), (.bool true)]) lawBody] (σ.set 13 (.frz t))) (items := [.bool false, .bool true])
    (Q := fun σ => ∃ w13 w14 w15 w16 w17 w18 w19 w20, σ = [.frz S, .frz RW, .frz (.bool sp), .frz (.bool alike), .frz LK, .frz L, .frz RK, .frz R, .frz (.int (icOf a b : Nat)), v9, .frz (.int (lnOf a b : Nat)), .frz (.int (lnOf b a : Nat)), .frz ILT, w13, w14, w15, w16, w17, w18, w19, w20, v21, v22, v23, v24])
    (fun σ t ht ⟨w13, w14, w15, w16, w17, w18, w19, w20, hσ⟩ => by
      subst hσ
      have hx : ∃ x : Bool, t = .bool x := by
        simp only [List.mem_cons, List.not_mem_nil, or_false] at ht
        rcases ht with rfl | rfl
        · exact ⟨_, rfl⟩
        · exact ⟨_, rfl⟩
      obtain ⟨x, rfl⟩ := hx
      obtain ⟨σ', h1, w14', w15', w16', w17', w18', w19', w20', rfl⟩ := for_keep (step := fun σ t => exs (ct (n + 7)) lawBody (σ.set 14 (.frz t))) (items := [.bool false, .bool true])
        (Q := fun σ => ∃ w14 w15 w16 w17 w18 w19 w20, σ = [.frz S, .frz RW, .frz (.bool sp), .frz (.bool alike), .frz LK, .frz L, .frz RK, .frz R, .frz (.int (icOf a b : Nat)), v9, .frz (.int (lnOf a b : Nat)), .frz (.int (lnOf b a : Nat)), .frz ILT, .frz (.bool x), w14, w15, w16, w17, w18, w19, w20, v21, v22, v23, v24])
        (σ := [.frz S, .frz RW, .frz (.bool sp), .frz (.bool alike), .frz LK, .frz L, .frz RK, .frz R, .frz (.int (icOf a b : Nat)), v9, .frz (.int (lnOf a b : Nat)), .frz (.int (lnOf b a : Nat)), .frz ILT, .frz (.bool x), w14, w15, w16, w17, w18, w19, w20, v21, v22, v23, v24])
        (fun σ t ht ⟨w14, w15, w16, w17, w18, w19, w20, hσ⟩ => by
          subst hσ
          have hy : ∃ y : Bool, t = .bool y := by
            simp only [List.mem_cons, List.not_mem_nil, or_false] at ht
            rcases ht with rfl | rfl
            · exact ⟨_, rfl⟩
            · exact ⟨_, rfl⟩
          refine Classical.byContradiction fun hCC => ?_
          obtain ⟨y, rfl⟩ := hy
          refine xa_6_1 (body x y w15 w16 w17 w18 w19 w20) fun u15 u16 u17 u18 u19 u20 h => ?_
          refine hCC ?_
          clear hCC
          exact ⟨_, h, _, _, _, _, _, _, _, rfl⟩) ⟨_, _, _, _, _, _, _, rfl⟩
      exact ⟨_, st_for (u := .list [.bool false, .bool true]) rfl rfl h1 st_nil, _, _, _, _, _, _, _, _, rfl⟩)
    ⟨_, _, _, _, _, _, _, _, rfl⟩
  exact ⟨w13, w14, w15, w16, w17, w18, w19, w20, h1⟩
end Mine
end
section
open PySem PySem.W PySem.Spec PySem.SeqAt
set_option tactic.hygienic false
set_option maxHeartbeats 2000000
namespace Mine
noncomputable def lawTail : List MS := [
  .asg 21 (.call "merge_frames" 735 [(.var 5), (.var 7), (.list []), (.bool false), (.bool false), (.list [(.str ".x"), (.str ".y")])]),
  .ite (.bop .Or [(.cmp .NotEq (.bcall .len [(.attr (.var 21) "items")]) (.int 4)), (.cmp .NotEq (.attr (.idx (.attr (.var 21) "attrs") (.str "names")) "items") (.ite (.var 3) (.list [(.str "k.x"), (.str "v.x"), (.str "k.y"), (.str "v.y")]) (.list [(.str "k.x"), (.str "v"), (.str "k.y"), (.str "w")])))]) [
    .ret (.bool false)] [],
  .asgF 22 (.list []),
  .forI 23 (.bcall .range [(.bcall .len [(.var 6)])]) [
    .forI 24 (.bcall .range [(.bcall .len [(.var 4)])]) [
      .app 22 (.bcall .str [(.list [(.idx (.var 4) (.var 24)), (.bin .Add (.int 10) (.var 24)), (.idx (.var 6) (.var 23)), (.bin .Add (.int 20) (.var 23))])])]],
  .frz 22,
  .ret (.cmp .Eq (.call "_law_lines" 752 [(.var 21), (.bool false)]) (.var 22))]
noncomputable def nx (alike : Bool) : Str := if alike then "v.x" else "v"
noncomputable def ny (alike : Bool) : Str := if alike then "v.y" else "w"
theorem idx_pk (l : List T) (i : Nat) (hi : i < l.length) (hl : l.length ≤ 1000) : tidx (.list l) (.int i) = some (pk l (some i)) := by
  rw [idx_list l i hi hl]
  show some l[i] = some (l.getD i .none)
  simp [List.getD, hi]
theorem law_tail (c : Addr → List T → Option T) (S RW L R c0 c1 c2 c3 rows : T) (sp alike : Bool) (a b : List Nat) (ha : small a) (hb : small b) (hla : a.length ≤ 5) (hlb : b.length ≤ 5) (v8 v9 v10 v11 v12 v13 v14 v15 v16 v17 v18 v19 v20 : LV)
    (h21 : c 735 [L, R, .list [], .bool false, .bool false, .list [.str ".x", .str ".y"]] = some (fr [c0, c1, c2, c3] [.str "k.x", .str (nx alike), .str "k.y", .str (ny alike)] rows))
    (hX : c 752 [fr [c0, c1, c2, c3] [.str "k.x", .str (nx alike), .str "k.y", .str (ny alike)] rows, .bool false] = some (.list (((crossP a.length b.length).map (lineX sp a b)).map .str))) :
    exs c lawTail [.frz S, .frz RW, .frz (.bool sp), .frz (.bool alike), .frz (.list (a.map (kv sp))), .frz L, .frz (.list (b.map (kv sp))), .frz R, v8, v9, v10, v11, v12, v13, v14, v15, v16, v17, v18, v19, v20, .undef, .undef, .undef, .undef] = some (.ret (.bool true)) := by
  have hit := fr_items [c0, c1, c2, c3] [.str "k.x", .str (nx alike), .str "k.y", .str (ny alike)] rows
  have hat := fr_attrs [c0, c1, c2, c3] [.str "k.x", .str (nx alike), .str "k.y", .str (ny alike)] rows
  generalize fr [c0, c1, c2, c3] [.str "k.x", .str (nx alike), .str "k.y", .str (ny alike)] rows = M at *
  have lenA : tcall .len [.list (a.map (kv sp))] = some (.int a.length) := by rw [len_list _ (by rw [List.length_map]; omega), List.length_map]
  have lenB : tcall .len [.list (b.map (kv sp))] = some (.int b.length) := by rw [len_list _ (by rw [List.length_map]; omega), List.length_map]
  have ixA : ∀ i : Nat, i < a.length → tidx (.list (a.map (kv sp))) (.int i) = some (pk (a.map (kv sp)) (some i)) := fun i hi => idx_pk _ i (by rw [List.length_map]; exact hi) (by rw [List.length_map]; omega)
  have ixB : ∀ i : Nat, i < b.length → tidx (.list (b.map (kv sp))) (.int i) = some (pk (b.map (kv sp)) (some i)) := fun i hi => idx_pk _ i (by rw [List.length_map]; exact hi) (by rw [List.length_map]; omega)
  have hok := fun (i j : Nat) (hi : i < a.length) (hj : j < b.length) => lineX_ok sp ha hb hla hlb hi hj
  generalize hLK : T.list (a.map (kv sp)) = LK at *
  generalize hRK : T.list (b.map (kv sp)) = RK at *
  obtain ⟨qA1, qA2⟩ := range_T a.length (by omega)
  obtain ⟨qB1, qB2⟩ := range_T b.length (by omega)
  refine st_asg (t := M) (ev_call (ts := [L, R, .list [], .bool false, .bool false, .list [.str ".x", .str ".y"]]) rfl h21) ?_
  refine st_ite (v := false) (r := .nxt _) (ev_or2 (ev_cmp (x := .int 4) (y := .int 4) (ev_bcall (ts := [.list [c0, c1, c2, c3]]) (evL_cons (ev_attr (o := M) rfl hit) rfl) (by kernel_rfl)) rfl (by kernel_rfl))
    (ev_cmp (x := .list [.str "k.x", .str (nx alike), .str "k.y", .str (ny alike)]) (y := .list [.str "k.x", .str (nx alike), .str "k.y", .str (ny alike)]) (ev_attr (o := chr [.str "k.x", .str (nx alike), .str "k.y", .str (ny alike)]) (ev_idx (u := .str "names") (ev_attr (o := M) rfl hat) rfl (fr_names _ _ _)) rfl) (by cases alike <;> rfl) (by cases alike <;> kernel_rfl))) st_nil ?_
  refine st_asgF (l := []) rfl ?_
  obtain ⟨σ1, g1, u, v, g2⟩ := for_appL (step := fun σ t => exs c [.forI 24 (.bcall .range [(.bcall .len [(.var 4)])]) [.app 22 (.bcall .str [(.list [(.idx (.var 4) (.var 24)), (.bin .Add (.int 10) (.var 24)), (.idx (.var 6) (.var 23)), (.bin .Add (.int 20) (.var 23))])])]] (σ.set 23 (.frz t)))
    (R := fun acc σ => ∃ u v, σ = [.frz S, .frz RW, .frz (.bool sp), .frz (.bool alike), .frz LK, .frz L, .frz RK, .frz R, v8, v9, v10, v11, v12, v13, v14, v15, v16, v17, v18, v19, v20, .frz M, .own acc, u, v])
    (g := fun t => match t with | .int j => (List.range a.length).map fun i => .str (lineX sp a b (some i, some j.toNat)) | _ => []) (items := (List.range b.length).map fun i => .int (i : Nat)) (acc := [])
    (σ := [.frz S, .frz RW, .frz (.bool sp), .frz (.bool alike), .frz LK, .frz L, .frz RK, .frz R, v8, v9, v10, v11, v12, v13, v14, v15, v16, v17, v18, v19, v20, .frz M, .own [], .undef, .undef]) ⟨_, _, rfl⟩ (fun acc σ t ht hl ⟨u, v, hσ⟩ => by
      subst hσ
      refine xa_1_2 (List.mem_map.mp ht) fun j hj rq0 => ?_
      subst rq0
      have hj := List.mem_range.mp hj
      dsimp only at hl ⊢
      rw [show (j : Int).toNat = j from rfl] at hl ⊢
      rw [List.length_map, List.length_range] at hl
      obtain ⟨σ2, k1, w, k2⟩ := for_appL (step := fun σ t => exs c [.app 22 (.bcall .str [(.list [(.idx (.var 4) (.var 24)), (.bin .Add (.int 10) (.var 24)), (.idx (.var 6) (.var 23)), (.bin .Add (.int 20) (.var 23))])])] (σ.set 24 (.frz t)))
        (R := fun acc σ => ∃ v, σ = [.frz S, .frz RW, .frz (.bool sp), .frz (.bool alike), .frz LK, .frz L, .frz RK, .frz R, v8, v9, v10, v11, v12, v13, v14, v15, v16, v17, v18, v19, v20, .frz M, .own acc, .frz (.int (j : Nat)), v])
        (g := fun t => match t with | .int i => [.str (lineX sp a b (some i.toNat, some j))] | _ => []) (items := (List.range a.length).map fun i => .int (i : Nat)) (acc := acc)
        (σ := [.frz S, .frz RW, .frz (.bool sp), .frz (.bool alike), .frz LK, .frz L, .frz RK, .frz R, v8, v9, v10, v11, v12, v13, v14, v15, v16, v17, v18, v19, v20, .frz M, .own acc, .frz (.int (j : Nat)), v]) ⟨_, rfl⟩ (fun acc σ t ht hl' ⟨v, hσ⟩ => by
          subst hσ
          obtain ⟨i, hi, rfl⟩ := List.mem_map.mp ht
          have hi := List.mem_range.mp hi
          change acc.length + 1 ≤ 999 at hl'
          exact ⟨_, st_app (t := .str (lineX sp a b (some i, some j))) rfl (ev_bcall (ts := [.list [pk (a.map (kv sp)) (some i), oiv 10 (some i), pk (b.map (kv sp)) (some j), oiv 20 (some j)]])
            (evL_cons (ev_list (evL_cons (ev_idx (o := LK) (u := .int (i : Nat)) rfl rfl (ixA i hi)) (evL_cons rfl (evL_cons (ev_idx (o := RK) (u := .int (j : Nat)) rfl rfl (ixB j hj)) (evL_cons rfl rfl)))) (show 4 ≤ lim by decide)) rfl) (hok i j hi hj).1) (lt_lim (by omega)) st_nil, _, rfl⟩)
        (by
          have := flat_le (l := (List.range a.length).map fun i => T.int (i : Nat)) (g := fun t => match t with | .int i => [T.str (lineX sp a b (some i.toNat, some j))] | _ => []) (B := 1) fun x hx => by split <;> simp
          rw [List.length_map, List.length_range] at this
          omega)
      refine ⟨σ2, st_for (u := .rng 0 a.length 1) (ev_bcall (ts := [.int a.length]) (evL_cons (ev_bcall (ts := [LK]) rfl lenA) rfl) qA1) qA2 k1 st_nil, .frz (.int (j : Nat)), w, ?_⟩
      rw [k2]
      have e : ((List.range a.length).map fun i => T.int (i : Nat)).flatMap (fun t => match t with | .int i => [T.str (lineX sp a b (some i.toNat, some j))] | _ => []) = (List.range a.length).map fun i => T.str (lineX sp a b (some i, some j)) := by
        generalize List.range a.length = ns
        induction ns with
        | nil => rfl
        | cons m ns ih => rw [List.map_cons, List.flatMap_cons, List.map_cons, ih]; rfl
      rw [e])
    (by
      have := flat_le (l := (List.range b.length).map fun i => T.int (i : Nat)) (g := fun t => match t with | .int j => (List.range a.length).map fun i => T.str (lineX sp a b (some i, some j.toNat)) | _ => []) (B := 5) fun x hx => by
        split
        · rw [List.length_map, List.length_range]; exact hla
        · exact Nat.zero_le _
      rw [List.length_map, List.length_range] at this
      simp only [List.length_nil]; omega)
  have e : [] ++ ((List.range b.length).map fun i => T.int (i : Nat)).flatMap (fun t => match t with | .int j => (List.range a.length).map fun i => T.str (lineX sp a b (some i, some j.toNat)) | _ => []) = ((crossP a.length b.length).map (lineX sp a b)).map .str := by
    rw [List.nil_append]
    unfold crossP
    rw [List.map_flatMap, List.map_flatMap, List.flatMap_map]
    refine flat_congr fun j _ => ?_
    rw [List.map_map, List.map_map]; rfl
  rw [e] at g2
  subst g2
  refine st_for (u := .rng 0 b.length 1) (ev_bcall (ts := [.int b.length]) (evL_cons (ev_bcall (ts := [RK]) rfl lenB) rfl) qB1) qB2 g1 (st_frz rfl rfl (st_ret ?_))
  refine ev_cmp (ev_call (ts := [M, .bool false]) rfl hX) rfl (eq_list (plain_strs fun s hs => ?_))
  refine xa_1_2 (List.mem_map.mp hs) fun p hp rq0 => ?_
  subst rq0
  refine xa_2_3 (cross_in p hp) fun i j rq0 hi hj => ?_
  subst rq0
  exact (hok i j hi hj).2
theorem on_5 (n : Nat) (alike : Bool) : ct (n + 6) 717 [.list [.str "k", .str "v"], .list [.str "k", .str (hdR alike)], .list [], .str ".x"] = some (.list [.str "k.x", .str (nx alike)]) := by cases alike <;> kernel_rfl
theorem on_6 (n : Nat) (alike : Bool) : ct (n + 6) 717 [.list [.str "k", .str (hdR alike)], .list [.str "k", .str "v"], .list [], .str ".y"] = some (.list [.str "k.y", .str (ny alike)]) := by cases alike <;> kernel_rfl
theorem tail_real (n : Nat) (S RW : T) (sp alike : Bool) (a b : List Nat) (ha : small a) (hb : small b) (hla : a.length ≤ 5) (hlb : b.length ≤ 5) (v8 v9 v10 v11 v12 v13 v14 v15 v16 v17 v18 v19 v20 : LV) :
    exs (ct (n + 7)) lawTail [.frz S, .frz RW, .frz (.bool sp), .frz (.bool alike), .frz (.list (a.map (kv sp))), .frz (frL sp a), .frz (.list (b.map (kv sp))), .frz (frR sp alike b), v8, v9, v10, v11, v12, v13, v14, v15, v16, v17, v18, v19, v20, .undef, .undef, .undef, .undef] = some (.ret (.bool true)) := by
  have h21 := r_merge_nil n sp a b (rowA 10 a.length) (rowA 20 b.length) "v" (hdR alike) ".x" ".y" [.str "k.x", .str (nx alike)] [.str "k.y", .str (ny alike)] hla hlb (rowA_len _ _) (rowA_len _ _) (.inl rfl) (hdR_or alike) (on_5 n alike) (on_6 n alike) (by show 2 ≤ 5; decide) (by show 2 ≤ 5; decide)
  exact law_tail (ct (n + 7)) S RW _ _ _ _ _ _ _ sp alike a b ha hb hla hlb v8 v9 v10 v11 v12 v13 v14 v15 v16 v17 v18 v19 v20 h21
    (r_xlines (n + 6) sp a b ha hb hla hlb (crossP a.length b.length) cross_in (by have := cross_len hla hlb; omega) _ _)
end Mine
end
section
open PySem PySem.W PySem.Spec PySem.SeqAt
set_option tactic.hygienic false
set_option maxHeartbeats 2000000
namespace Mine
theorem st_unp {c : Addr → List T → Option T} {σ σ' : List LV} {ms : List MS} {o : Out} {is e ts} (h : ev c false σ e = some (.tup ts)) (h1 : setAll σ is ts = some σ') (k : exs c ms σ' = some o) : exs c (.unp is e :: ms) σ = some o := by
  show (match (match ev c false σ e with | some (.tup ts) => (setAll σ is ts).map Out.nxt | _ => none) with | some (.nxt σ') => exs c ms σ' | r => r) = _
  rw [h]
  show (match (setAll σ is ts).map Out.nxt with | some (.nxt σ') => exs c ms σ' | r => r) = _
  rw [h1]; exact k
theorem slc_mid (rs : List Int) (i k : Nat) (h : i + k ≤ rs.length) (hl : rs.length ≤ 100) : tslc (.list (rs.map .int)) (some (i : Nat)) (some ((i + k : Nat) : Int)) = some (.list (((rs.drop i).take k).map .int)) := by
  show (if (rs.map T.int).length ≤ lim then some (T.list (tslice (rs.map .int) (some (i : Int)) (some ((i + k : Nat) : Int)))) else none) = _
  rw [if_pos (by rw [List.length_map]; exact le_lim (by omega))]
  have e1 : ∀ d, clipT (some (i : Int)) (rs.map T.int).length d = i := fun d => by
    unfold clipT
    dsimp only
    rw [if_neg (by omega), Int.toNat_natCast, List.length_map]; omega
  have e2 : ∀ d, clipT (some ((i + k : Nat) : Int)) (rs.map T.int).length d = i + k := fun d => by
    unfold clipT
    dsimp only
    rw [if_neg (by omega), Int.toNat_natCast, List.length_map]; omega
  unfold tslice
  rw [e1, e2, Nat.add_sub_cancel_left, List.map_take, List.map_drop]
theorem mid_rng {rs : List Int} (h : ∀ r ∈ rs, rng3 r) (i k : Nat) : ∀ r ∈ (rs.drop i).take k, rng3 r := fun r hr => h r (List.mem_of_mem_drop (List.mem_of_mem_take hr))
theorem r_law (ns : List Int) (h : ns.length ≤ 63) : ct 20 762 [.list (ns.map .int)] = some (.bool true) := by
  refine xa_1_3 (r_stream 18 ns h) fun rs hrl hrr hst => ?_
  obtain ⟨a, ha, hla, hsa⟩ := r_side 15 ((rs.drop 2).take 10) (rs.getD 0 0 % 2 == 1) 10 "v" (by rw [List.length_take, List.length_drop]; omega) (mid_rng hrr 2 10)
  obtain ⟨b, hb, hlb, hsb⟩ := r_side 15 ((rs.drop 12).take 10) (rs.getD 0 0 % 2 == 1) 20 (hdR (rs.getD 1 0 % 2 == 1)) (by rw [List.length_take, List.length_drop]; omega) (mid_rng hrr 12 10)
  refine ct_of f_law.fe 19 (by kernel_rfl) rfl rfl rfl ?_
  have i0 : tidx (.list (rs.map .int)) (.int 0) = some (.int (rs.getD 0 0)) := idx_ints rs 0 (by omega) (by omega)
  have i1 : tidx (.list (rs.map .int)) (.int 1) = some (.int (rs.getD 1 0)) := idx_ints rs 1 (by omega) (by omega)
  have s2 : tslc (.list (rs.map .int)) (some 2) (some 12) = some (.list (((rs.drop 2).take 10).map .int)) := slc_mid rs 2 10 (by omega) (by omega)
  have s12 : tslc (.list (rs.map .int)) (some 12) (some 22) = some (.list (((rs.drop 12).take 10).map .int)) := slc_mid rs 12 10 (by omega) (by omega)
  have m0 : tbin .Mod (.int (rs.getD 0 0)) (.int 2) = some (.int (rs.getD 0 0 % 2)) := rfl
  have m1 : tbin .Mod (.int (rs.getD 1 0)) (.int 2) = some (.int (rs.getD 1 0 % 2)) := rfl
  have t0 : tcmp .Eq (.int (rs.getD 0 0 % 2)) (.int 1) = some (rs.getD 0 0 % 2 == 1) := rfl
  have t1 : tcmp .Eq (.int (rs.getD 1 0 % 2)) (.int 1) = some (rs.getD 1 0 % 2 == 1) := rfl
  generalize (rs.getD 0 0 % 2 == 1) = sp at *
  generalize (rs.getD 1 0 % 2 == 1) = alike at *
  generalize T.list (ns.map .int) = S at *
  generalize T.list (((rs.drop 2).take 10).map .int) = S1 at *
  generalize T.list (((rs.drop 12).take 10).map .int) = S2 at *
  generalize T.list (rs.map .int) = RW at *
  -- the inner rows
  obtain ⟨sx, ox⟩ := on_3 12 alike
  obtain ⟨sy, oy⟩ := on_4 12 alike
  obtain ⟨P, hP, _, h12⟩ := r_merge_k 12 sp a b (rowA 10 a.length) (rowA 20 b.length) "v" (hdR alike) ".x" ".y" [.str sx] [.str sy] false false true ha hb hla hlb (rowA_len _ _) (rowA_len _ _) (.inl rfl) (hdR_or alike) ox oy (by show 1 ≤ 5; decide) (by show 1 ≤ 5; decide)
  have hpl := pairs_len (x := false) (y := false) hla hlb
  have hPl : P.length ≤ 60 := by rw [hP.length_eq]; omega
  have okP' : ∀ p ∈ P, okP a b p := fun p hp => pairs_ok p (hP.mem_iff.mp hp)
  have h12b := r_mlines 18 sp a b P ha hb hla hlb okP' hPl ([.str "k"] ++ [.str sx] ++ [.str sy]) (rowsT P.length)
  have hso := sorted_strs (P.map (lineP sp a b)) (by rw [List.length_map]; omega)
  have hILl : (sortS (P.map (lineP sp a b))).length = P.length :=
    (List.mergeSort_perm (P.map (lineP sp a b)) leS).length_eq.trans (List.length_map _)
  have hPic : P.length = icOf a b := by
    have := pairs_length a b false false
    rw [hP.length_eq, this]
    simp [icOf]
  have hIL : ∀ s ∈ sortS (P.map (lineP sp a b)), ∃ p ∈ pairsP a b false false, s = lineP sp a b p := fun s hs => by
    refine xa_1_2 (List.mem_map.mp (sort_mem hs)) fun p hp rq0 => ?_
    subst rq0
    exact ⟨p, hP.mem_iff.mp hp, rfl⟩
  rw [← ct_six] at h12
  obtain ⟨w13, w14, w15, w16, w17, w18, w19, w20, hloops⟩ := law_loops 12 sp alike a b ha hb hla hlb S RW (.list (a.map (kv sp))) (.list (b.map (kv sp))) (sortS (P.map (lineP sp a b))) hIL (by omega)
    (if a.length = 0 then .undef else .frz (kv sp (a.getD (a.length - 1) 4))) .undef .undef .undef .undef
  have tl := fun v9 v10 v11 v12 => tail_real 12 S RW sp alike a b ha hb hla hlb (.frz (.int (icOf a b : Nat))) v9 v10 v11 v12 w13 w14 w15 w16 w17 w18 w19 w20
  have cntB : ∀ f, f < 5 → tmeth .count (.list (b.map (kv sp))) [kv sp f] = some (.int (b.count f : Nat)) := fun f hf => count_kv sp hf hb
  have niA : ∀ f, f < 5 → tcmp .NotIn (kv sp f) (.list (a.map (kv sp))) = some (!a.contains f) := fun f hf => notin_kv sp hf ha
  have niB : ∀ f, f < 5 → tcmp .NotIn (kv sp f) (.list (b.map (kv sp))) = some (!b.contains f) := fun f hf => notin_kv sp hf hb
  have itA : iterT (.list (a.map (kv sp))) = some (a.map (kv sp)) := if_pos (by rw [List.length_map]; exact le_lim (by omega))
  have itB : iterT (.list (b.map (kv sp))) = some (b.map (kv sp)) := if_pos (by rw [List.length_map]; exact le_lim (by omega))
  have lnA : tcall .len [.list ((a.filter fun f => !b.contains f).map (kv sp))] = some (.int (lnOf a b : Nat)) := by
    have := List.length_filter_le (fun f => !b.contains f) a
    rw [len_list _ (by rw [List.length_map]; omega), List.length_map]; rfl
  have lnB : tcall .len [.list ((b.filter fun f => !a.contains f).map (kv sp))] = some (.int (lnOf b a : Nat)) := by
    have := List.length_filter_le (fun f => !a.contains f) b
    rw [len_list _ (by rw [List.length_map]; omega), List.length_map]; rfl
  have lnI : tcall .len [.list ((sortS (P.map (lineP sp a b))).map .str)] = some (.int (icOf a b : Nat)) := by
    rw [len_list _ (by rw [List.length_map]; omega), List.length_map, hILl, hPic]
  generalize T.list ((P.map (lineP sp a b)).map .str) = LS at *
  generalize T.list ((sortS (P.map (lineP sp a b))).map .str) = IL at *
  generalize fr _ _ (rowsT P.length) = M at h12 h12b
  rw [show kfr sp a (rowA 10 a.length) "v" = frL sp a from rfl] at hsa h12
  rw [show kfr sp b (rowA 20 b.length) (hdR alike) = frR sp alike b from rfl] at hsb h12
  generalize frL sp a = L at *
  generalize frR sp alike b = R at *
  -- the count
  obtain ⟨σ1, g1, g2⟩ := for_inv (step := fun σ t => exs (ct 19) [.aug 8 (.meth .count (.var 6) [(.var 9)])] (σ.set 9 (.frz t)))
    (R := fun m σ => σ = [.frz S, .frz RW, .frz (.bool sp), .frz (.bool alike), .frz (.list (a.map (kv sp))), .frz L, .frz (.list (b.map (kv sp))), .frz R, .frz (.int ((((a.take m).map fun f => b.count f).sum : Nat) : Int)), if m = 0 then .undef else .frz (kv sp (a.getD (m - 1) 4)), .undef, .undef, .undef, .undef, .undef, .undef, .undef, .undef, .undef, .undef, .undef, .undef, .undef, .undef, .undef])
    (items := a.map (kv sp)) (k := 0) (σ := [.frz S, .frz RW, .frz (.bool sp), .frz (.bool alike), .frz (.list (a.map (kv sp))), .frz L, .frz (.list (b.map (kv sp))), .frz R, .frz (.int 0), .undef, .undef, .undef, .undef, .undef, .undef, .undef, .undef, .undef, .undef, .undef, .undef, .undef, .undef, .undef, .undef]) rfl (fun j σ t ht hσ => by
      subst hσ
      rw [List.getElem?_map] at ht
      refine xa_1_2 (Option.map_eq_some_iff.mp ht) fun f hf rq0 => ?_
      subst rq0
      have hf5 := ha f (List.mem_of_getElem? hf)
      rw [Nat.zero_add]
      refine ⟨_, st_aug rfl (ev_meth (v := .list (b.map (kv sp))) (ts := [kv sp f]) rfl rfl (cntB f hf5)) st_nil, ?_⟩
      have e1 : (((a.take j).map fun f => b.count f).sum : Nat) + (b.count f : Int) = ((((a.take (j + 1)).map fun f => b.count f).sum : Nat) : Int) := by
        rw [List.take_succ, hf, List.map_append, List.sum_append]
        simp
      have e2 : a.getD j 4 = f := by simp [List.getD, hf]
      rw [if_neg (Nat.succ_ne_zero j), Nat.add_sub_cancel, e2, ← e1]; rfl)
  rw [Nat.zero_add, List.length_map, List.take_length] at g2
  subst g2
  refine st_asg (t := RW) (ev_call (ts := [S]) rfl hst) ?_
  refine st_asg (t := .bool sp) (ev_cmp (ev_bin (ev_idx (o := RW) (u := .int 0) rfl rfl i0) rfl m0) rfl t0) ?_
  refine st_asg (t := .bool alike) (ev_cmp (ev_bin (ev_idx (o := RW) (u := .int 1) rfl rfl i1) rfl m1) rfl t1) ?_
  refine st_unp (ev_call (ts := [S1, .bool sp, .int 10, .str "v"]) (evL_cons s2 rfl) hsa) rfl ?_
  refine st_unp (ev_call (ts := [S2, .bool sp, .int 20, .str (hdR alike)]) (evL_cons s12 (evL_cons rfl (evL_cons rfl (evL_cons (by cases alike <;> rfl) rfl)))) hsb) rfl ?_
  refine st_asg (t := .int 0) rfl ?_
  refine st_for (u := .list (a.map (kv sp))) rfl itA g1 ?_
  refine st_asg (t := .int (lnOf a b : Nat)) (ev_bcall (evL_cons (ev_comp (u := .list (a.map (kv sp))) rfl itA (comp_filterN (p := fun f => !b.contains f) fun f hf => ⟨?_, fun _ => rfl⟩)) rfl) lnA) ?_
  · show (do asB (← ev (ct 19) false _ (.cmp .NotIn (.var 25) (.var 6)))) = _
    rw [ev_cmp (x := kv sp f) (y := .list (b.map (kv sp))) rfl rfl (niB f (ha f hf))]; rfl
  refine st_asg (t := .int (lnOf b a : Nat)) (ev_bcall (evL_cons (ev_comp (u := .list (b.map (kv sp))) rfl itB (comp_filterN (p := fun f => !a.contains f) fun f hf => ⟨?_, fun _ => rfl⟩)) rfl) lnB) ?_
  · show (do asB (← ev (ct 19) false _ (.cmp .NotIn (.var 25) (.var 4)))) = _
    rw [ev_cmp (x := kv sp f) (y := .list (a.map (kv sp))) rfl rfl (niA f (hb f hf))]; rfl
  refine st_asg (t := IL) (ev_bcall (ts := [LS]) (evL_cons (ev_call (ts := [M, .bool false]) (evL_cons (ev_call (ts := [L, R, .list [.str "k"], .bool false, .bool false, .list [.str ".x", .str ".y"]]) rfl h12) rfl) h12b) rfl) hso) ?_
  refine st_ite (v := false) (r := .nxt _) (ev_cmp (x := .int (icOf a b : Nat)) (y := .int (icOf a b : Nat)) (ev_bcall (ts := [IL]) rfl lnI) rfl (ne_int _)) st_nil ?_
  exact st_for (u := .list [.bool false, .bool true]) rfl rfl hloops (tl _ _ _ _)
end Mine
end
section
set_option tactic.hygienic false
set_option maxRecDepth 100000
set_option maxHeartbeats 8000000
namespace Mine
open PySem PySem.W PyProof.Rows
noncomputable abbrev fdK (K : Frag) (a : Addr) (h : (fnAt K a).isSome = true) : FuncData := (fnAt K a).get h
theorem ek_mk {K : Frag} {e : FE} (h : (fnAt K e.a).isSome = true) (ok : okFn GG K (fdK K e.a h) e.ps e.tbl e.ms = true) (hd : e.ds = [])
    (hb : ∀ vs : List Value, vs.length = e.ps.length → bindArgs (fdK K e.a h) ⟨vs, []⟩ = pure (e.ps.zip (vs ++ []))) : EK K e :=
  ⟨_, (Option.some_get h).symm, ok, fun s vs _ hl => .of_eq (hb vs hl), fun s vs _ h0 _ => absurd hd h0⟩
noncomputable def afterL {α : Type} (X : Sem α) (T : Addr) (o : Obj) : Option (Sem α) := match X with
  | .load a none k => if a = T then some (k o) else none
  | _ => none
set_option tactic.hygienic true in
theorem afterL_wp {α : Type} {X Y : Sem α} {T : Addr} {o : Obj} {s : Shared} (h : afterL X T o = some Y) (ho : s.heap.get? T = some o) {M : Model} {A : Around} {E : Value → Shared → Prop} {Q : α → Shared → Prop} (hy : wpAny M A Y Q E s) : wpAny M A X Q E s := by
  unfold afterL at h
  split at h
  · rename_i a k
    split at h
    · rename_i e
      subst e; cases h
      exact wpAny_bind (m := Sem.load a none Sem.pure) (f := k) (wpAny_loadPart ho hy)
    · cases h
  · cases h
theorem binds_L {K : Frag} {s : Shared} {fd : FuncData} {args : Args} {binds : List (Str × Value)} (T : Addr) (o : Obj) (X : K.In s.heap) (ho : K.lookup T = some o) (h : afterL (bindArgs fd args) T o = some (pure binds)) : BindsTo s fd args binds :=
  fun _ _ _ _ hq => afterL_wp h (X _ _ ho) (wpAny_pure hq)
theorem len1 {P : List Value → Prop} (hb : ∀ a0, P [a0]) : ∀ vs : List Value, vs.length = 1 → P vs :=
  fun vs h => by
    cases vs with
    | nil => cases h
    | cons a r => cases List.eq_nil_of_length_eq_zero (Nat.succ.inj h); exact hb a
theorem len2 {P : List Value → Prop} (hb : ∀ a0 a1, P [a0, a1]) : ∀ vs : List Value, vs.length = 2 → P vs :=
  fun vs h => by
    cases vs with
    | nil => cases h
    | cons a r => exact len1 (P := fun r => P (a :: r)) (fun a1 => hb a a1) r (Nat.succ.inj h)
theorem len3 {P : List Value → Prop} (hb : ∀ a0 a1 a2, P [a0, a1, a2]) : ∀ vs : List Value, vs.length = 3 → P vs :=
  fun vs h => by
    cases vs with
    | nil => cases h
    | cons a r => exact len2 (P := fun r => P (a :: r)) (fun a1 a2 => hb a a1 a2) r (Nat.succ.inj h)
theorem len4 {P : List Value → Prop} (hb : ∀ a0 a1 a2 a3, P [a0, a1, a2, a3]) : ∀ vs : List Value, vs.length = 4 → P vs :=
  fun vs h => by
    cases vs with
    | nil => cases h
    | cons a r => exact len3 (P := fun r => P (a :: r)) (fun a1 a2 a3 => hb a a1 a2 a3) r (Nat.succ.inj h)
theorem len5 {P : List Value → Prop} (hb : ∀ a0 a1 a2 a3 a4, P [a0, a1, a2, a3, a4]) : ∀ vs : List Value, vs.length = 5 → P vs :=
  fun vs h => by
    cases vs with
    | nil => cases h
    | cons a r => exact len4 (P := fun r => P (a :: r)) (fun a1 a2 a3 a4 => hb a a1 a2 a3 a4) r (Nat.succ.inj h)
theorem len6 {P : List Value → Prop} (hb : ∀ a0 a1 a2 a3 a4 a5, P [a0, a1, a2, a3, a4, a5]) : ∀ vs : List Value, vs.length = 6 → P vs :=
  fun vs h => by
    cases vs with
    | nil => cases h
    | cons a r => exact len5 (P := fun r => P (a :: r)) (fun a1 a2 a3 a4 a5 => hb a a1 a2 a3 a4 a5) r (Nat.succ.inj h)
theorem len7 {P : List Value → Prop} (hb : ∀ a0 a1 a2 a3 a4 a5 a6, P [a0, a1, a2, a3, a4, a5, a6]) : ∀ vs : List Value, vs.length = 7 → P vs :=
  fun vs h => by
    cases vs with
    | nil => cases h
    | cons a r => exact len6 (P := fun r => P (a :: r)) (fun a1 a2 a3 a4 a5 a6 => hb a a1 a2 a3 a4 a5 a6) r (Nat.succ.inj h)
section
variable (p : Params)
theorem ef_from_int : EK (H.K p) f_from_int.fe := ek_mk (by kernel_rfl) (by kernel_rfl) rfl (len1 fun a0 => by kernel_rfl)
theorem ef_special_text : EK (H.K p) f_special_text.fe := ek_mk (by kernel_rfl) (by kernel_rfl) rfl (len1 fun a0 => by kernel_rfl)
theorem ef_whole_text : EK (H.K p) f_whole_text.fe := ek_mk (by kernel_rfl) (by kernel_rfl) rfl (len1 fun a0 => by kernel_rfl)
theorem ef_exact_text : EK (H.K p) f_exact_text.fe := ek_mk (by kernel_rfl) (by kernel_rfl) rfl (len1 fun a0 => by kernel_rfl)
theorem ef_room : EK (H.K p) f_room.fe := ek_mk (by kernel_rfl) (by kernel_rfl) rfl (len1 fun a0 => by kernel_rfl)
theorem ef_integer : EK (H.K p) f_integer.fe := ek_mk (by kernel_rfl) (by kernel_rfl) rfl (len1 fun a0 => by kernel_rfl)
theorem ef_character : EK (H.K p) f_character.fe := ek_mk (by kernel_rfl) (by kernel_rfl) rfl (len1 fun a0 => by kernel_rfl)
theorem ef_length : EK (H.K p) f_length.fe := ek_mk (by kernel_rfl) (by kernel_rfl) rfl (len1 fun a0 => by kernel_rfl)
theorem ef_share : EK (H.K p) f_share.fe := ek_mk (by kernel_rfl) (by kernel_rfl) rfl (len1 fun a0 => by kernel_rfl)
theorem ef_get_attr : EK (H.K p) f_get_attr.fe := ek_mk (by kernel_rfl) (by kernel_rfl) rfl (len2 fun a0 a1 => by kernel_rfl)
theorem ef_label_text : EK (H.K p) f_label_text.fe := ek_mk (by kernel_rfl) (by kernel_rfl) rfl (len2 fun a0 a1 => by kernel_rfl)
theorem ef_label_texts : EK (H.K p) f_label_texts.fe := ek_mk (by kernel_rfl) (by kernel_rfl) rfl (len1 fun a0 => by kernel_rfl)
theorem ef_names_of : EK (H.K p) f_names_of.fe := ek_mk (by kernel_rfl) (by kernel_rfl) rfl (len1 fun a0 => by kernel_rfl)
theorem ef_dim_of : EK (H.K p) f_dim_of.fe := ek_mk (by kernel_rfl) (by kernel_rfl) rfl (len1 fun a0 => by kernel_rfl)
theorem ef_class_attr : EK (H.K p) f_class_attr.fe := ek_mk (by kernel_rfl) (by kernel_rfl) rfl (len1 fun a0 => by kernel_rfl)
theorem ef_kind_order : EK (H.K p) f_kind_order.fe := ek_mk (by kernel_rfl) (by kernel_rfl) rfl (len1 fun a0 => by kernel_rfl)
theorem ef_common_kind : EK (H.K p) f_common_kind.fe := ek_mk (by kernel_rfl) (by kernel_rfl) rfl (len1 fun a0 => by kernel_rfl)
theorem ef_to_double : EK (H.K p) f_to_double.fe := ek_mk (by kernel_rfl) (by kernel_rfl) rfl (len3 fun a0 a1 a2 => by kernel_rfl)
theorem ef_item_as : EK (H.K p) f_item_as.fe := ek_mk (by kernel_rfl) (by kernel_rfl) rfl (len4 fun a0 a1 a2 a3 => by kernel_rfl)
theorem ef_is_atomic_kind : EK (H.K p) f_is_atomic_kind.fe := ek_mk (by kernel_rfl) (by kernel_rfl) rfl (len1 fun a0 => by kernel_rfl)
theorem ef_as_kind : EK (H.K p) f_as_kind.fe := ek_mk (by kernel_rfl) (by kernel_rfl) rfl (len3 fun a0 a1 a2 => by kernel_rfl)
theorem ef_with_names : EK (H.K p) f_with_names.fe := ek_mk (by kernel_rfl) (by kernel_rfl) rfl (len2 fun a0 a1 => by kernel_rfl)
theorem ef_is_lacking : EK (H.K p) f_is_lacking.fe := ek_mk (by kernel_rfl) (by kernel_rfl) rfl (len2 fun a0 a1 => by kernel_rfl)
theorem ef_compare_items : EK (H.K p) f_compare_items.fe := ek_mk (by kernel_rfl) (by kernel_rfl) rfl (len3 fun a0 a1 a2 => by kernel_rfl)
theorem ef_check_sortable : EK (H.K p) f_check_sortable.fe := ek_mk (by kernel_rfl) (by kernel_rfl) rfl (len1 fun a0 => by kernel_rfl)
theorem ef_compare_places : EK (H.K p) f_compare_places.fe := ek_mk (by kernel_rfl) (by kernel_rfl) rfl (len5 fun a0 a1 a2 a3 a4 => by kernel_rfl)
theorem ef_compare_keys : EK (H.K p) f_compare_keys.fe := ek_mk (by kernel_rfl) (by kernel_rfl) rfl (len5 fun a0 a1 a2 a3 a4 => by kernel_rfl)
theorem ef_merge_runs : EK (H.K p) f_merge_runs.fe := ek_mk (by kernel_rfl) (by kernel_rfl) rfl (len5 fun a0 a1 a2 a3 a4 => by kernel_rfl)
theorem ef_merge_sort : EK (H.K p) f_merge_sort.fe := ek_mk (by kernel_rfl) (by kernel_rfl) rfl (len4 fun a0 a1 a2 a3 => by kernel_rfl)
theorem ef_each_key : EK (H.K p) f_each_key.fe := ek_mk (by kernel_rfl) (by kernel_rfl) rfl (len2 fun a0 a1 => by kernel_rfl)
theorem ef_kept_places : EK (H.K p) f_kept_places.fe := ek_mk (by kernel_rfl) (by kernel_rfl) rfl (len2 fun a0 a1 => by kernel_rfl)
theorem ef_order_by : EK (H.K p) f_order_by.fe := ⟨_, (Option.some_get (by kernel_rfl)).symm, by kernel_rfl, (fun s vs X h => (len3 (P := fun vs => BindsTo s (fdK (H.K p) f_order_by.fe.a (by kernel_rfl)) ⟨vs, []⟩ (f_order_by.fe.ps.zip (vs ++ []))) fun a0 a1 a2 => binds_L 589 (H.o589 p) X (by kernel_rfl) (by kernel_rfl)) vs h), (fun s vs X h0 h => (len1 (P := fun vs => BindsTo s (fdK (H.K p) f_order_by.fe.a (by kernel_rfl)) ⟨vs, []⟩ (f_order_by.fe.ps.zip (vs ++ f_order_by.fe.ds.map (·.1)))) fun a0 => binds_L 589 (H.o589 p) X (by kernel_rfl) (by kernel_rfl)) vs (Nat.add_right_cancel (m := 2) h))⟩
theorem ef_is_factor : EK (H.K p) f_is_factor.fe := ek_mk (by kernel_rfl) (by kernel_rfl) rfl (len1 fun a0 => by kernel_rfl)
theorem ef_new_frame : EK (H.K p) f_new_frame.fe := ek_mk (by kernel_rfl) (by kernel_rfl) rfl (len3 fun a0 a1 a2 => by kernel_rfl)
theorem ef_plain_rows : EK (H.K p) f_plain_rows.fe := ek_mk (by kernel_rfl) (by kernel_rfl) rfl (len1 fun a0 => by kernel_rfl)
theorem ef_frame_rows : EK (H.K p) f_frame_rows.fe := ek_mk (by kernel_rfl) (by kernel_rfl) rfl (len1 fun a0 => by kernel_rfl)
theorem ef_column_names : EK (H.K p) f_column_names.fe := ek_mk (by kernel_rfl) (by kernel_rfl) rfl (len1 fun a0 => by kernel_rfl)
theorem ef_kept_attrs : EK (H.K p) f_kept_attrs.fe := ek_mk (by kernel_rfl) (by kernel_rfl) rfl (len1 fun a0 => by kernel_rfl)
theorem ef_lacking : EK (H.K p) f_lacking.fe := ek_mk (by kernel_rfl) (by kernel_rfl) rfl (len1 fun a0 => by kernel_rfl)
theorem ef_pick_items : EK (H.K p) f_pick_items.fe := ek_mk (by kernel_rfl) (by kernel_rfl) rfl (len2 fun a0 a1 => by kernel_rfl)
theorem ef_joined_column : EK (H.K p) f_joined_column.fe := ek_mk (by kernel_rfl) (by kernel_rfl) rfl (len1 fun a0 => by kernel_rfl)
theorem ef_column_keys : EK (H.K p) f_column_keys.fe := ek_mk (by kernel_rfl) (by kernel_rfl) rfl (len1 fun a0 => by kernel_rfl)
theorem ef_row_keys : EK (H.K p) f_row_keys.fe := ek_mk (by kernel_rfl) (by kernel_rfl) rfl (len2 fun a0 a1 => by kernel_rfl)
theorem ef_check_by : EK (H.K p) f_check_by.fe := ek_mk (by kernel_rfl) (by kernel_rfl) rfl (len2 fun a0 a1 => by kernel_rfl)
theorem ef_matched_pairs : EK (H.K p) f_matched_pairs.fe := ek_mk (by kernel_rfl) (by kernel_rfl) rfl (len2 fun a0 a1 => by kernel_rfl)
theorem ef_lone_places : EK (H.K p) f_lone_places.fe := ek_mk (by kernel_rfl) (by kernel_rfl) rfl (len2 fun a0 a1 => by kernel_rfl)
theorem ef_all_pairs : EK (H.K p) f_all_pairs.fe := ek_mk (by kernel_rfl) (by kernel_rfl) rfl (len2 fun a0 a1 => by kernel_rfl)
theorem ef_merged_pairs : EK (H.K p) f_merged_pairs.fe := ek_mk (by kernel_rfl) (by kernel_rfl) rfl (len4 fun a0 a1 a2 a3 => by kernel_rfl)
theorem ef_key_column : EK (H.K p) f_key_column.fe := ek_mk (by kernel_rfl) (by kernel_rfl) rfl (len3 fun a0 a1 a2 => by kernel_rfl)
theorem ef_other_names : EK (H.K p) f_other_names.fe := ek_mk (by kernel_rfl) (by kernel_rfl) rfl (len4 fun a0 a1 a2 a3 => by kernel_rfl)
theorem ef_sort_key : EK (H.K p) f_sort_key.fe := ek_mk (by kernel_rfl) (by kernel_rfl) rfl (len1 fun a0 => by kernel_rfl)
theorem ef_merge_order : EK (H.K p) f_merge_order.fe := ek_mk (by kernel_rfl) (by kernel_rfl) rfl (len2 fun a0 a1 => by kernel_rfl)
theorem ef_merge_frames : EK (H.K p) f_merge_frames.fe := ⟨_, (Option.some_get (by kernel_rfl)).symm, by kernel_rfl, (fun s vs X h => (len7 (P := fun vs => BindsTo s (fdK (H.K p) f_merge_frames.fe.a (by kernel_rfl)) ⟨vs, []⟩ (f_merge_frames.fe.ps.zip (vs ++ []))) fun a0 a1 a2 a3 a4 a5 a6 => binds_L 730 (H.o730 p) X (by kernel_rfl) (by kernel_rfl)) vs h), (fun s vs X h0 h => (len6 (P := fun vs => BindsTo s (fdK (H.K p) f_merge_frames.fe.a (by kernel_rfl)) ⟨vs, []⟩ (f_merge_frames.fe.ps.zip (vs ++ f_merge_frames.fe.ds.map (·.1)))) fun a0 a1 a2 a3 a4 a5 => binds_L 730 (H.o730 p) X (by kernel_rfl) (by kernel_rfl)) vs (Nat.add_right_cancel (m := 1) h))⟩
theorem ef_law_stream : EK (H.K p) f_law_stream.fe := ek_mk (by kernel_rfl) (by kernel_rfl) rfl (len1 fun a0 => by kernel_rfl)
theorem ef_law_side : EK (H.K p) f_law_side.fe := ek_mk (by kernel_rfl) (by kernel_rfl) rfl (len4 fun a0 a1 a2 a3 => by kernel_rfl)
theorem ef_law_lines : EK (H.K p) f_law_lines.fe := ek_mk (by kernel_rfl) (by kernel_rfl) rfl (len2 fun a0 a1 => by kernel_rfl)
theorem ef_law_ascends : EK (H.K p) f_law_ascends.fe := ek_mk (by kernel_rfl) (by kernel_rfl) rfl (len1 fun a0 => by kernel_rfl)
theorem ef_law : EK (H.K p) f_law.fe := ek_mk (by kernel_rfl) (by kernel_rfl) rfl (len1 fun a0 => by kernel_rfl)
theorem ktab : ∀ e ∈ tab, EK (H.K p) e := by
  have c : ∀ {e : FE} {l : List FE}, EK (H.K p) e → (∀ x ∈ l, EK (H.K p) x) → ∀ x ∈ e :: l, EK (H.K p) x := fun h k => List.forall_mem_cons.mpr ⟨h, k⟩
  exact c (ef_from_int p) <| c (ef_special_text p) <| c (ef_whole_text p) <| c (ef_exact_text p) <| c (ef_room p) <| c (ef_integer p) <| c (ef_character p) <| c (ef_length p) <| c (ef_share p) <| c (ef_get_attr p) <| c (ef_label_text p) <| c (ef_label_texts p) <| c (ef_names_of p) <| c (ef_dim_of p) <| c (ef_class_attr p) <| c (ef_kind_order p) <| c (ef_common_kind p) <| c (ef_to_double p) <| c (ef_item_as p) <| c (ef_is_atomic_kind p) <| c (ef_as_kind p) <| c (ef_with_names p) <| c (ef_is_lacking p) <| c (ef_compare_items p) <| c (ef_check_sortable p) <| c (ef_compare_places p) <| c (ef_compare_keys p) <| c (ef_merge_runs p) <| c (ef_merge_sort p) <| c (ef_each_key p) <| c (ef_kept_places p) <| c (ef_order_by p) <| c (ef_is_factor p) <| c (ef_new_frame p) <| c (ef_plain_rows p) <| c (ef_frame_rows p) <| c (ef_column_names p) <| c (ef_kept_attrs p) <| c (ef_lacking p) <| c (ef_pick_items p) <| c (ef_joined_column p) <| c (ef_column_keys p) <| c (ef_row_keys p) <| c (ef_check_by p) <| c (ef_matched_pairs p) <| c (ef_lone_places p) <| c (ef_all_pairs p) <| c (ef_merged_pairs p) <| c (ef_key_column p) <| c (ef_other_names p) <| c (ef_sort_key p) <| c (ef_merge_order p) <| c (ef_merge_frames p) <| c (ef_law_stream p) <| c (ef_law_side p) <| c (ef_law_lines p) <| c (ef_law_ascends p) <| c (ef_law p) <| fun e he => nomatch he
theorem kini : IK (H.K p) := ⟨fdK (H.K p) 301 (by kernel_rfl), (Option.some_get (by kernel_rfl)).symm, by kernel_rfl, (fun s x k i X => binds_L 294 (H.o294 p) X (by kernel_rfl) (by kernel_rfl)), (fun s x k i a X => binds_L 294 (H.o294 p) X (by kernel_rfl) (by kernel_rfl))⟩
theorem kf : KFacts (H.K p) := ⟨ktab p, kini p, by kernel_rfl, by kernel_rfl⟩
end
end Mine
end
section
set_option maxRecDepth 100000
set_option maxHeartbeats 8000000
namespace Mine
open PySem PySem.W PyProof.Rows
theorem holds (hlaw : ∀ ns : List Int, ns.length ≤ 63 → ct 20 762 [.list (ns.map .int)] = some (.bool true)) : PySem.Challenge.rw_ov0088_01.Holds := by
  refine holds_law H.said fun said => ?_
  refine holds_open (q := H.q) (loose := H.loose) (Xt := H.Xt) (XP := XL H.q []) (Yf := H.hook.obs) (Ya := H.hook.val) (YP := H.hook.says) (d := H.dl) (kwd := []) (N := 8368) H.left H.hook.of H.hook.keeps (fun s e => xl_of s (Bool.and_eq_true_iff.mp e).1) XL.keeps
    (by kernel_rfl) (by kernel_rfl) (by kernel_rfl) (fun s e => recFacts_of (Bool.and_eq_true_iff.mp e).2) (by kernel_rfl) said (by kernel_rfl) ⟨rfl, rfl, rfl, rfl, rfl, by kernel_rfl⟩ ⟨[WData.list []], by kernel_rfl, by kernel_rfl⟩ ?_
  intro w s₀ s₁ mg mb G Y fa o pm cd doc dV kV ho hd' hcd hD hmg hg args vals as hpre hlay hrd hwl hlo
  have KX := kIn_of Y
  refine Ground.open G ?_
  intro T B D TE TW
  clear hD hcd hd' ho D TE TW B G Y
  wrow_args hpre hlay hrd hwl hlo
  rename_i ns _ _ _ _ _ _ _ l vs _ hL _ hW _ hI _ hc _
  have hg0 : s₁.heap.get? l = some (lstO vs 0) := by
    cases hW with
    | list h1 h2 =>
      obtain ⟨o, e1, e2, n, e3⟩ := hL
      rw [h1] at e1
      cases e1
      cases e3
      exact h1
  refine join (kf w.params) KX T hmg hg0 hI (hlaw ns (by omega)) fun h' tk hk => ?_
  refine GoodW.toG ⟨.inl ⟨.bool true, .bool true, [], rfl, fun cls => rfl, .bool true, by (first | with_unfolding_all rfl | kernel_rfl), fun h => ?_⟩, hk, rfl, hg⟩
  exact ⟨List.nodup_nil, fun a ha => nomatch ha⟩
end Mine
end

set_option maxRecDepth 100000 in
set_option maxHeartbeats 8000000 in
theorem PySem.Challenge.cw_ov0088_01_holds : PySem.Challenge.rw_ov0088_01.Holds :=
  Mine.holds Mine.r_law
